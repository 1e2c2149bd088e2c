import PyProof.Rows.All
import Wide.All
import OpenK.AllK
import Wide.FinOn
import HandS.ForMost
import HandS.ForExc
import HandS.IsInst
import HandS.Style
import HandS.Codes
import HandS.Flow
import HandS.TupAny
import HandS.Deep
import PyProof.FitsReplace
import HandS.Star
import PySem.Challenge.RW_pulledout_k03_items_and_steps
set_option Elab.async false
set_option linter.all false
set_option maxRecDepth 100000
set_option maxHeartbeats 4000000
/-! A layer over HandS: data by value, what a def does as a plain function over data. -/
namespace DL
open PySem L2

/-- data by value -/
inductive D where
  | non | bl (b : Bool) | int (i : Int) | str (s : Str)
  | lst (ds : List D) | tup (ds : List D) | dct (kvs : List (Key × D)) | obj (C : Addr) (fs : List (Str × D)) | cls (v : V)

def Ex (H H' : Hp) : Prop := ∀ a o, H a = some o → H' a = some o
theorem Ex.refl (H : Hp) : Ex H H := fun _ _ h => h
theorem Ex.trans {H H1 H2 : Hp} (a : Ex H H1) (b : Ex H1 H2) : Ex H H2 := fun x o h => b x o (a x o h)
theorem Ex.new {H : Hp} {p : Addr} {o : HO} (h : H p = none) : Ex H (upd H p o) := fun a u e => by
  rw [upd_ne (ne_of_none e h)]; exact e
theorem Ex.none {H H' : Hp} (e : Ex H H') {p : Addr} (h : H' p = none) : H p = none := by
  cases q : H p with
  | none => rfl
  | some o => rw [e p o q] at h; cases h
theorem Ex.rd {H H' : Hp} {a : Addr} {u : HO} (e : Ex H H') (h : Rd H a u) : Rd H' a u := by
  rcases h with h | ⟨o, h⟩
  · exact Or.inl (e a _ h)
  · exact Or.inr ⟨o, e a _ h⟩
theorem Ex.sl {K : PySem.W.Frag} {H H' : Hp} {a : Addr} {xs : List V} (e : Ex H H') (h : SqL K H a xs) : SqL K H' a xs := by
  rcases h with h | h
  · exact Or.inl (e.rd h)
  · exact Or.inr h
theorem Ex.st {K : PySem.W.Frag} {H H' : Hp} {a : Addr} {xs : List V} (e : Ex H H') (h : SqT K H a xs) : SqT K H' a xs := by
  rcases h with h | h
  · exact Or.inl (e.rd h)
  · exact Or.inr h

/-! ### how data lie in the heap; F: what is never changed any more -/
mutual
inductive Dr (K : PySem.W.Frag) (F : Hp) : V → D → Prop
  | non : Dr K F .non .non
  | bl (b : Bool) : Dr K F (.bl b) (.bl b)
  | int (i : Int) : Dr K F (.int i) (.int i)
  | str (x : Str) : Dr K F (.str x) (.str x)
  | lst {a : Addr} {xs : List V} {ds : List D} : Rd F a (.lst xs) → DrA K F xs ds → Dr K F (.ref a) (.lst ds)
  | tup {a : Addr} {xs : List V} {ds : List D} : SqT K F a xs → DrA K F xs ds → Dr K F (.ref a) (.tup ds)
  | dct {a : Addr} {kvs : List (Key × V)} {kds : List (Key × D)} : F a = some (.dK kvs) → kvs.map (·.1) = kds.map (·.1) → DrA K F (kvs.map (·.2)) (kds.map (·.2)) → Dr K F (.ref a) (.dct kds)
  | obj {a C dx : Addr} {fs : List (Str × V)} {gs : List (Str × D)} : F a = some (.ins C dx fs) → fs.map (·.1) = gs.map (·.1) → DrA K F (fs.map (·.2)) (gs.map (·.2)) → Dr K F (.ref a) (.obj C gs)
  | cls (v : V) : Dr K F v (.cls v)
inductive DrA (K : PySem.W.Frag) (F : Hp) : List V → List D → Prop
  | nil : DrA K F [] []
  | cons {v : V} {vs : List V} {d : D} {ds : List D} : Dr K F v d → DrA K F vs ds → DrA K F (v :: vs) (d :: ds)
end

section
variable {K : PySem.W.Frag} {F F' : Hp}
theorem Dr.mono (e : Ex F F') {v : V} {d : D} (h : Dr K F v d) : Dr K F' v d :=
  Dr.rec (motive_1 := fun v d _ => Dr K F' v d) (motive_2 := fun vs ds _ => DrA K F' vs ds)
    .non .bl .int .str (fun h _ ih => .lst (e.rd h) ih) (fun h _ ih => .tup (e.st h) ih) (fun h k _ ih => .dct (e _ _ h) k ih) (fun h k _ ih => .obj (e _ _ h) k ih) .cls
    .nil (fun _ _ ih ih2 => .cons ih ih2) h
theorem DrA.mono (e : Ex F F') : ∀ {vs : List V} {ds : List D}, DrA K F vs ds → DrA K F' vs ds
  | _, _, .nil => .nil
  | _, _, .cons h t => .cons (h.mono e) (DrA.mono e t)
theorem DrA.length : ∀ {vs : List V} {ds : List D}, DrA K F vs ds → vs.length = ds.length
  | _, _, .nil => rfl
  | _, _, .cons _ t => by rw [List.length_cons, List.length_cons, DrA.length t]
theorem DrA.get : ∀ {vs : List V} {ds : List D} {i : Nat} {d : D}, DrA K F vs ds → ds[i]? = some d → ∃ v, vs[i]? = some v ∧ Dr K F v d
  | _, _, _, _, .nil, e => by simp at e
  | _, _, 0, _, .cons h _, e => by simp at e; subst e; exact ⟨_, rfl, h⟩
  | _, _, i + 1, d, .cons _ t, e => by
    obtain ⟨v, h1, h2⟩ := DrA.get (i := i) (d := d) t (by simpa using e)
    exact ⟨v, by simpa using h1, h2⟩
theorem DrA.append : ∀ {vs ws : List V} {ds es : List D}, DrA K F vs ds → DrA K F ws es → DrA K F (vs ++ ws) (ds ++ es)
  | _, _, _, _, .nil, s => s
  | _, _, _, _, .cons h t, s => .cons h (DrA.append t s)
theorem DrA.take : ∀ {vs : List V} {ds : List D} (n : Nat), DrA K F vs ds → DrA K F (vs.take n) (ds.take n)
  | _, _, 0, _ => by rw [List.take_zero, List.take_zero]; exact .nil
  | _, _, _ + 1, .nil => by rw [List.take_nil, List.take_nil]; exact .nil
  | _, _, n + 1, .cons h t => .cons h (DrA.take n t)
theorem DrA.drop : ∀ {vs : List V} {ds : List D} (n : Nat), DrA K F vs ds → DrA K F (vs.drop n) (ds.drop n)
  | _, _, 0, r => r
  | _, _, _ + 1, .nil => by rw [List.drop_nil, List.drop_nil]; exact .nil
  | _, _, n + 1, .cons _ t => DrA.drop n t
theorem DrA.set : ∀ {vs : List V} {ds : List D} (i : Nat) {v : V} {d : D}, Dr K F v d → DrA K F vs ds → DrA K F (vs.set i v) (ds.set i d)
  | _, _, _, _, _, _, .nil => .nil
  | _, _, 0, _, _, r, .cons _ t => .cons r t
  | _, _, i + 1, _, _, r, .cons q t => .cons q (DrA.set i r t)
theorem DrA.one {v : V} {d : D} (h : Dr K F v d) : DrA K F [v] [d] := .cons h .nil
end

/-! ### the frame: what each slot holds -/
/-- un: nothing known; fz: data that stand still; ow: a mutable thing that this slot alone holds (tag: the parameter that handed it in) -/
inductive Sl where
  | un | fz (d : D) | ow (t : Option Nat) (d : D)
abbrev Fm := List Sl

/-- the object o is d, its parts stand still -/
inductive Do (K : PySem.W.Frag) (F : Hp) : HO → D → Prop
  | lst {xs : List V} {ds : List D} : DrA K F xs ds → Do K F (.lst xs) (.lst ds)
  | dct {kvs : List (Key × V)} {kds : List (Key × D)} : kvs.map (·.1) = kds.map (·.1) → DrA K F (kvs.map (·.2)) (kds.map (·.2)) → Do K F (.dK kvs) (.dct kds)
  | obj {C dx : Addr} {fs : List (Str × V)} {gs : List (Str × D)} : fs.map (·.1) = gs.map (·.1) → DrA K F (fs.map (·.2)) (gs.map (·.2)) → Do K F (.ins C dx fs) (.obj C gs)
theorem Do.mono {K : PySem.W.Frag} {F F' : Hp} (e : Ex F F') {o : HO} {d : D} (h : Do K F o d) : Do K F' o d := by
  cases h with
  | lst h => exact .lst (h.mono e)
  | dct k h => exact .dct k (h.mono e)
  | obj k h => exact .obj k (h.mono e)
theorem Do.dr {K : PySem.W.Frag} {F : Hp} {p : Addr} {o : HO} {d : D} (hp : F p = some o) (h : Do K F o d) : Dr K F (.ref p) d := by
  cases h with
  | lst h => exact .lst (Or.inl hp) h
  | dct k h => exact .dct hp k h
  | obj k h => exact .obj hp k h

/-- the entry of the def (or of a part of it) -/
structure Bs where
  F0 : Hp
  H0 : Hp
  ps : Addr → Prop
  par : Nat → Option Addr

structure SR (K : PySem.W.Frag) (B : Bs) (F H : Hp) (σ : L2.St) (env : Fm) : Prop where
  ex : Ex F H
  ex0 : Ex B.F0 F
  keep : ∀ a o, B.H0 a = some o → ¬ B.ps a → H a = some o
  newF : ∀ a o, F a = some o → B.F0 a ≠ none ∨ B.H0 a = none ∨ B.ps a
  len : σ.length = env.length
  fz : ∀ (i : Nat) (d : D), env[i]? = some (.fz d) → ∃ v, σ[i]? = some (some v) ∧ Dr K F v d
  ow : ∀ (i : Nat) (t : Option Nat) (d : D), env[i]? = some (.ow t d) → ∃ p o, σ[i]? = some (some (.ref p)) ∧ F p = none ∧ H p = some o ∧ Do K F o d ∧ (B.H0 p = none ∨ B.ps p) ∧ ∀ k, t = some k → B.par k = some p
  dis : ∀ (i j : Nat) (t u : Option Nat) (d e : D) (p : Addr), i ≠ j → env[i]? = some (.ow t d) → env[j]? = some (.ow u e) → σ[i]? = some (some (.ref p)) → σ[j]? = some (some (.ref p)) → False

/-- the addresses that the frame alone holds -/
def owned (σ : L2.St) (env : Fm) (p : Addr) : Prop := ∃ (i : Nat) (t : Option Nat) (d : D), env[i]? = some (.ow t d) ∧ σ[i]? = some (some (.ref p))

section
variable {K : PySem.W.Frag} {B : Bs} {F H F' H' : Hp} {σ σ' : L2.St} {env env' : Fm}
theorem SR.owned_b (s : SR K B F H σ env) {p : Addr} (h : owned σ env p) : F p = none ∧ (∃ o, H p = some o) ∧ (B.H0 p = none ∨ B.ps p) := by
  obtain ⟨i, t, d, e1, e2⟩ := h
  obtain ⟨q, o, h1, h2, h3, _, h5, _⟩ := s.ow i t d e1
  rw [e2] at h1
  have e : p = q := V.ref.inj (Option.some.inj (Option.some.inj h1))
  subst e
  exact ⟨h2, ⟨o, h3⟩, h5⟩
/-- a new start at a state -/
theorem SR.rebase (s : SR K B F H σ env) : SR K ⟨F, H, owned σ env, B.par⟩ F H σ env where
  ex := s.ex
  ex0 := Ex.refl F
  keep := fun _ _ h _ => h
  newF := fun a o h => Or.inl (fun z => by have z' : F a = none := z; rw [h] at z'; cases z')
  len := s.len
  fz := s.fz
  ow := fun i t d e => by
    obtain ⟨p, o, h1, h2, h3, h4, h5, h6⟩ := s.ow i t d e
    exact ⟨p, o, h1, h2, h3, h4, Or.inr ⟨i, t, d, e, h1⟩, h6⟩
  dis := s.dis
/-- .. and back -/
theorem SR.unbase {par : Nat → Option Addr} (s : SR K B F H σ env) (hp : ∀ (i k : Nat) (d : D) (p : Addr), env'[i]? = some (.ow (some k) d) → par k = some p → B.par k = some p) (r : SR K ⟨F, H, owned σ env, par⟩ F' H' σ' env') : SR K B F' H' σ' env' where
  ex := r.ex
  ex0 := s.ex0.trans r.ex0
  keep := fun a o h n => r.keep a o (s.keep a o h n) fun z => by
    rcases (s.owned_b z).2.2 with q | q
    · rw [h] at q; cases q
    · exact n q
  newF := fun a o h => by
    have hb : H a = none → B.H0 a = none ∨ B.ps a := fun hn => by
      cases q : B.H0 a with
      | none => exact Or.inl rfl
      | some u =>
        refine Or.inr (Classical.byContradiction fun hc => ?_)
        rw [s.keep a u q hc] at hn
        cases hn
    rcases r.newF a o h with z | z | z
    · cases q : F a with
      | none => exact absurd q z
      | some u => exact s.newF a u q
    · exact Or.inr (hb z)
    · exact Or.inr (s.owned_b z).2.2
  len := r.len
  fz := r.fz
  ow := fun i t d e => by
    obtain ⟨p, o, h1, h2, h3, h4, h5, h6⟩ := r.ow i t d e
    refine ⟨p, o, h1, h2, h3, h4, ?_, fun k hk => ?_⟩
    · rcases h5 with z | z
      · cases q : B.H0 p with
        | none => exact Or.inl rfl
        | some u =>
          refine Or.inr (Classical.byContradiction fun hc => ?_)
          have z' : H p = none := z
          rw [s.keep p u q hc] at z'
          cases z'
      · exact (s.owned_b z).2.2
    · subst hk
      exact hp i k d p e (h6 k rfl)
  dis := r.dis
theorem SR.dr (s : SR K B F H σ env) {v : V} {d : D} (h : Dr K F v d) : Dr K H v d := h.mono s.ex
/-- more of the heap stands still -/
theorem SR.grow (s : SR K B F H σ env) {p : Addr} {o : HO} (hp : H p = none) : SR K B (upd F p o) (upd H p o) σ env where
  ex := fun a u h => by
    by_cases e : a = p
    · subst e; rw [upd_same] at h ⊢; exact h
    · rw [upd_ne e] at h ⊢; exact s.ex a u h
  ex0 := s.ex0.trans (Ex.new (s.ex.none hp))
  keep := fun a u h n => by
    have h1 := s.keep a u h n
    rw [upd_ne (ne_of_none h1 hp)]; exact h1
  newF := fun a u h => by
    by_cases e : a = p
    · subst e
      cases q : B.H0 a with
      | none => exact Or.inr (Or.inl rfl)
      | some u' =>
        refine Or.inr (Or.inr (Classical.byContradiction fun hc => ?_))
        rw [s.keep a u' q hc] at hp
        cases hp
    · rw [upd_ne e] at h; exact s.newF a u h
  len := s.len
  fz := fun i d e => by
    obtain ⟨v, h1, h2⟩ := s.fz i d e
    exact ⟨v, h1, h2.mono (Ex.new (s.ex.none hp))⟩
  ow := fun i t d e => by
    obtain ⟨q, u, h1, h2, h3, h4, h5, h6⟩ := s.ow i t d e
    have hne : q ≠ p := ne_of_none h3 hp
    exact ⟨q, u, h1, by rw [upd_ne hne]; exact h2, by rw [upd_ne hne]; exact h3, h4.mono (Ex.new (s.ex.none hp)), h5, h6⟩
  dis := s.dis
/-- the heap alone grows -/
theorem SR.growH (s : SR K B F H σ env) {p : Addr} {o : HO} (hp : H p = none) : SR K B F (upd H p o) σ env where
  ex := s.ex.trans (Ex.new hp)
  ex0 := s.ex0
  keep := fun a u h n => by
    have h1 := s.keep a u h n
    rw [upd_ne (ne_of_none h1 hp)]; exact h1
  newF := s.newF
  len := s.len
  fz := s.fz
  ow := fun i t d e => by
    obtain ⟨q, u, h1, h2, h3, h4, h5, h6⟩ := s.ow i t d e
    exact ⟨q, u, h1, h2, by rw [upd_ne (ne_of_none h3 hp)]; exact h3, h4, h5, h6⟩
  dis := s.dis
/-- what is new here was free at the entry -/
theorem SR.new_b (s : SR K B F H σ env) {p : Addr} (hp : H p = none) : B.H0 p = none ∨ B.ps p := by
  cases q : B.H0 p with
  | none => exact Or.inl rfl
  | some u =>
    refine Or.inr (Classical.byContradiction fun hc => ?_)
    rw [s.keep p u q hc] at hp
    cases hp
/-- a slot takes data -/
theorem SR.setF (s : SR K B F H σ env) {i : Nat} {v : V} {d : D} (h : Dr K F v d) : SR K B F H (σ.set i (some v)) (env.set i (.fz d)) where
  ex := s.ex
  ex0 := s.ex0
  keep := s.keep
  newF := s.newF
  len := by rw [List.length_set, List.length_set]; exact s.len
  fz := fun j e h1 => by
    by_cases hij : i = j
    · subst hij
      have hl : i < env.length := by
        have := (List.getElem?_eq_some_iff.mp h1).1
        rw [List.length_set] at this; exact this
      rw [List.getElem?_set_self hl] at h1
      cases h1
      exact ⟨v, List.getElem?_set_self (by rw [s.len]; exact hl), h⟩
    · rw [List.getElem?_set_ne hij] at h1 ⊢
      exact s.fz j e h1
  ow := fun j t e h1 => by
    by_cases hij : i = j
    · subst hij
      have hl : i < env.length := by
        have := (List.getElem?_eq_some_iff.mp h1).1
        rw [List.length_set] at this; exact this
      rw [List.getElem?_set_self hl] at h1
      cases h1
    · rw [List.getElem?_set_ne hij] at h1 ⊢
      exact s.ow j t e h1
  dis := fun j k t u d1 d2 p hjk h1 h2 h3 h4 => by
    by_cases hij : i = j
    · subst hij
      have hl : i < env.length := by
        have := (List.getElem?_eq_some_iff.mp h1).1
        rw [List.length_set] at this; exact this
      rw [List.getElem?_set_self hl] at h1
      cases h1
    · by_cases hik : i = k
      · subst hik
        have hl : i < env.length := by
          have := (List.getElem?_eq_some_iff.mp h2).1
          rw [List.length_set] at this; exact this
        rw [List.getElem?_set_self hl] at h2
        cases h2
      · rw [List.getElem?_set_ne hij] at h1 h3
        rw [List.getElem?_set_ne hik] at h2 h4
        exact s.dis j k t u d1 d2 p hjk h1 h2 h3 h4
/-- a slot takes a new thing for itself -/
theorem SR.setO (s : SR K B F H σ env) {i : Nat} {p : Addr} {o : HO} {d : D} (hF : F p = none) (hH : H p = some o) (hd : Do K F o d) (hb : B.H0 p = none ∨ B.ps p) (hno : ¬ owned σ env p) :
    SR K B F H (σ.set i (some (.ref p))) (env.set i (.ow none d)) where
  ex := s.ex
  ex0 := s.ex0
  keep := s.keep
  newF := s.newF
  len := by rw [List.length_set, List.length_set]; exact s.len
  fz := fun j e h1 => by
    by_cases hij : i = j
    · subst hij
      have hl : i < env.length := by
        have := (List.getElem?_eq_some_iff.mp h1).1
        rw [List.length_set] at this; exact this
      rw [List.getElem?_set_self hl] at h1
      cases h1
    · rw [List.getElem?_set_ne hij] at h1 ⊢
      exact s.fz j e h1
  ow := fun j t e h1 => by
    by_cases hij : i = j
    · subst hij
      have hl : i < env.length := by
        have := (List.getElem?_eq_some_iff.mp h1).1
        rw [List.length_set] at this; exact this
      rw [List.getElem?_set_self hl] at h1
      cases h1
      exact ⟨p, o, List.getElem?_set_self (by rw [s.len]; exact hl), hF, hH, hd, hb, fun k hk => nomatch hk⟩
    · rw [List.getElem?_set_ne hij] at h1 ⊢
      exact s.ow j t e h1
  dis := fun j k t u d1 d2 q hjk h1 h2 h3 h4 => by
    by_cases hij : i = j
    · subst hij
      have hl : i < env.length := by
        have := (List.getElem?_eq_some_iff.mp h1).1
        rw [List.length_set] at this; exact this
      rw [List.getElem?_set_self (by rw [s.len]; exact hl)] at h3
      rw [List.getElem?_set_ne hjk] at h2 h4
      have e : p = q := V.ref.inj (Option.some.inj (Option.some.inj h3))
      subst e
      exact hno ⟨k, u, d2, h2, h4⟩
    · by_cases hik : i = k
      · subst hik
        have hl : i < env.length := by
          have := (List.getElem?_eq_some_iff.mp h2).1
          rw [List.length_set] at this; exact this
        rw [List.getElem?_set_self (by rw [s.len]; exact hl)] at h4
        rw [List.getElem?_set_ne hij] at h1 h3
        have e : p = q := V.ref.inj (Option.some.inj (Option.some.inj h4))
        subst e
        exact hno ⟨j, t, d1, h1, h3⟩
      · rw [List.getElem?_set_ne hij] at h1 h3
        rw [List.getElem?_set_ne hik] at h2 h4
        exact s.dis j k t u d1 d2 q hjk h1 h2 h3 h4
/-- a slot's own thing changes -/
theorem SR.chg (s : SR K B F H σ env) {i : Nat} {t : Option Nat} {p : Addr} {d d' : D} {o' : HO} (he : env[i]? = some (.ow t d)) (hs : σ[i]? = some (some (.ref p))) (hd : Do K F o' d') :
    SR K B F (upd H p o') σ (env.set i (.ow t d')) := by
  obtain ⟨q, o, h1, h2, h3, h4, h5, h6⟩ := s.ow i t d he
  rw [hs] at h1
  have e : p = q := V.ref.inj (Option.some.inj (Option.some.inj h1))
  subst e
  have hl : i < env.length := (List.getElem?_eq_some_iff.mp he).1
  refine ⟨fun a u h => ?_, s.ex0, fun a u h n => ?_, s.newF, by rw [List.length_set]; exact s.len, fun j e h7 => ?_, fun j u e h7 => ?_, fun j k t1 t2 d1 d2 r hjk g1 g2 g3 g4 => ?_⟩
  · rw [upd_ne (ne_of_none h h2)]; exact s.ex a u h
  · have hne : a ≠ p := fun z => by
      subst z
      rcases h5 with z | z
      · rw [h] at z; cases z
      · exact n z
    rw [upd_ne hne]; exact s.keep a u h n
  · by_cases hij : i = j
    · subst hij
      rw [List.getElem?_set_self hl] at h7; cases h7
    · rw [List.getElem?_set_ne hij] at h7; exact s.fz j e h7
  · by_cases hij : i = j
    · subst hij
      rw [List.getElem?_set_self hl] at h7
      cases h7
      exact ⟨p, o', hs, h2, upd_same, hd, h5, h6⟩
    · rw [List.getElem?_set_ne hij] at h7
      obtain ⟨q, o2, g1, g2, g3, g4, g5, g6⟩ := s.ow j u e h7
      have hne : q ≠ p := fun z => by
        subst z
        exact s.dis i j t u d e q hij he h7 hs g1
      exact ⟨q, o2, g1, g2, by rw [upd_ne hne]; exact g3, g4, g5, g6⟩
  · have f : ∀ (m : Nat) (t3 : Option Nat) (d3 : D), (env.set i (.ow t d'))[m]? = some (.ow t3 d3) → ∃ t4 d4, env[m]? = some (.ow t4 d4) := fun m t3 d3 g => by
      by_cases him : i = m
      · subst him; exact ⟨t, d, he⟩
      · rw [List.getElem?_set_ne him] at g; exact ⟨t3, d3, g⟩
    obtain ⟨a1, b1, c1⟩ := f j t1 d1 g1
    obtain ⟨a2, b2, c2⟩ := f k t2 d2 g2
    exact s.dis j k a1 a2 b1 b2 r hjk c1 c2 g3 g4
/-- a slot's own thing stands still from now on -/
theorem SR.frz (s : SR K B F H σ env) {i : Nat} {t : Option Nat} {d : D} (he : env[i]? = some (.ow t d)) : ∃ v F', Ex F F' ∧ σ[i]? = some (some v) ∧ Dr K F' v d ∧ SR K B F' H σ (env.set i (.fz d)) := by
  obtain ⟨p, o, h1, h2, h3, h4, h5, h6⟩ := s.ow i t d he
  have hl : i < env.length := (List.getElem?_eq_some_iff.mp he).1
  have hx : Ex F (upd F p o) := Ex.new h2
  have hd : Dr K (upd F p o) (.ref p) d := (h4.mono hx).dr upd_same
  refine ⟨.ref p, upd F p o, hx, h1, hd, fun a u h => ?_, s.ex0.trans hx, s.keep, fun a u h => ?_, by rw [List.length_set]; exact s.len, fun j e h7 => ?_, fun j u e h7 => ?_, fun j k t1 t2 d1 d2 r hjk g1 g2 g3 g4 => ?_⟩
  · by_cases e : a = p
    · subst e; rw [upd_same] at h; rw [h3]; exact h
    · rw [upd_ne e] at h; exact s.ex a u h
  · by_cases e : a = p
    · subst e; exact Or.inr h5
    · rw [upd_ne e] at h; exact s.newF a u h
  · by_cases hij : i = j
    · subst hij
      rw [List.getElem?_set_self hl] at h7
      cases h7
      exact ⟨_, h1, hd⟩
    · rw [List.getElem?_set_ne hij] at h7
      obtain ⟨v, q1, q2⟩ := s.fz j e h7
      exact ⟨v, q1, q2.mono hx⟩
  · by_cases hij : i = j
    · subst hij
      rw [List.getElem?_set_self hl] at h7; cases h7
    · rw [List.getElem?_set_ne hij] at h7
      obtain ⟨q, o2, g1, g2, g3, g4, g5, g6⟩ := s.ow j u e h7
      have hne : q ≠ p := fun z => by
        subst z
        exact s.dis i j t u d e q hij he h7 h1 g1
      exact ⟨q, o2, g1, by rw [upd_ne hne]; exact g2, g3, g4.mono hx, g5, g6⟩
  · have f : ∀ (m : Nat) (t3 : Option Nat) (d3 : D), (env.set i (.fz d))[m]? = some (.ow t3 d3) → env[m]? = some (.ow t3 d3) := fun m t3 d3 g => by
      by_cases him : i = m
      · subst him; rw [List.getElem?_set_self hl] at g; cases g
      · rw [List.getElem?_set_ne him] at g; exact g
    exact s.dis j k t1 t2 d1 d2 r hjk (f j t1 d1 g1) (f k t2 d2 g2) g3 g4
end

/-! ### what runs give -/
structure Exn where
  C : Addr
  fs : List (Str × D)
inductive Res (α : Type) where
  | ok (a : α) (env : Fm) | ex (x : Exn) (env : Fm) | no
abbrev M (α : Type) := Fm → Res α
def ret {α : Type} (a : α) : M α := fun env => .ok a env
def bnd {α β : Type} (f : M α) (k : α → M β) : M β := fun env => match f env with
  | .ok a e => k a e
  | .ex x e => .ex x e
  | .no => .no
def lft {α : Type} (o : Option α) : M α := fun env => match o with
  | some a => .ok a env
  | none => .no
def XR (K : PySem.W.Frag) (F : Hp) (x : Exn) (c : Value) (dd : Option Addr) : Prop :=
  c = .ref x.C ∧ ∃ d fs, dd = some d ∧ F d = some (.xd fs) ∧ fs.map (·.1) = x.fs.map (·.1) ∧ DrA K F (fs.map (·.2)) (x.fs.map (·.2))
abbrev XE := L2.St → XK
/-- a reading over any kind of answer -/
abbrev TB (β : Type) := L2.St → Hp → (β → Hp → Prop) → Prop
/-- how an answer of the machine is one of ours: F, σ, the frame -/
abbrev RL (β α : Type) := Bs → Hp → Hp → L2.St → Fm → β → α → Prop

def Post {β α : Type} (K : PySem.W.Frag) (B : Bs) (F : Hp) (σ : L2.St) (E : XE) (R : RL β α) (Q : β → Hp → Prop) : Res α → Prop
  | .ok a env' => ∀ b F' H', Ex F F' → SR K B F' H' σ env' → R B F' H' σ env' b a → Q b H'
  | .ex x env' => ∀ c dd F' H', Ex F F' → SR K B F' H' σ env' → XR K F' x c dd → E σ c dd H'
  | .no => False
def Tr {β α : Type} (K : PySem.W.Frag) (E : XE) (R : RL β α) (t : TB β) (f : M α) : Prop :=
  ∀ B F H σ env Q, SR K B F H σ env → Post K B F σ E R Q (f env) → t σ H Q
section
variable {K : PySem.W.Frag} {B : Bs} {F H : Hp} {σ : L2.St} {env : Fm} {E : XE}
theorem Tr.step {β α β' α' : Type} {R : RL β α} {R' : RL β' α'} {t : TB β} {f : M α} (h : Tr K E R t f) (s : SR K B F H σ env) {k : α → M α'} {Q : β' → Hp → Prop} {P : β → Hp → Prop}
    (hq : Post K B F σ E R' Q (bnd f k env))
    (hk : ∀ a env1 b F1 H1, Ex F F1 → SR K B F1 H1 σ env1 → R B F1 H1 σ env1 b a → Post K B F1 σ E R' Q (k a env1) → P b H1) : t σ H P := by
  refine h B F H σ env P s ?_
  unfold bnd at hq
  cases e : f env with
  | no => rw [e] at hq; exact hq
  | ex x env' => rw [e] at hq; exact hq
  | ok a env1 =>
    rw [e] at hq
    intro b F1 H1 e1 s1 r1
    refine hk a env1 b F1 H1 e1 s1 r1 ?_
    revert hq
    show Post K B F σ E R' Q (k a env1) → Post K B F1 σ E R' Q (k a env1)
    cases k a env1 with
    | no => exact fun hq => hq
    | ex x env' => exact fun hq c dd F' H' e2 s2 x2 => hq c dd F' H' (e1.trans e2) s2 x2
    | ok a' env' => exact fun hq b' F' H' e2 s2 r2 => hq b' F' H' (e1.trans e2) s2 r2
theorem Post.lft {β α : Type} {R : RL β α} {Q : β → Hp → Prop} {o : Option α} (h : Post K B F σ E R Q (lft o env)) : ∃ a, o = some a ∧ Post K B F σ E R Q (.ok a env) := by
  unfold DL.lft at h
  cases o with
  | none => exact h.elim
  | some a => exact ⟨a, rfl, h⟩
end

/-! ### the kinds of answers -/
/-- data that stand still -/
def rD (K : PySem.W.Frag) : RL V D := fun _ F _ _ _ v d => Dr K F v d
def rDs (K : PySem.W.Frag) : RL (List V) (List D) := fun _ F _ _ _ vs ds => DrA K F vs ds
def rB : RL Bool Bool := fun _ _ _ _ _ b a => b = a
def rO : RL (Option Int) (Option Int) := fun _ _ _ _ _ b a => b = a
/-- what is to be read: data, or a slot -/
inductive Rv where
  | fz (d : D) | sl (i : Nat)
def rV (K : PySem.W.Frag) : RL V Rv := fun _ F _ σ _ v r => match r with
  | .fz d => Dr K F v d
  | .sl i => σ[i]? = some (some v)
def look (r : Rv) : M D := fun env => match r with
  | .fz d => .ok d env
  | .sl i => match env[i]? with
    | some (.fz d) => .ok d env
    | some (.ow _ d) => .ok d env
    | _ => .no
/-- a new thing: not yet anybody's -/
def rN (K : PySem.W.Frag) : RL V D := fun B F H σ env v d => ∃ p o, v = .ref p ∧ F p = none ∧ H p = some o ∧ Do K F o d ∧ (B.H0 p = none ∨ B.ps p) ∧ ¬ owned σ env p
/-- the thing stands still, or it is a slot's own -/
def Dh (K : PySem.W.Frag) (F H : Hp) (v : V) (d : D) : Prop := Dr K F v d ∨ ∃ p o, v = .ref p ∧ H p = some o ∧ Do K F o d
section
variable {K : PySem.W.Frag} {B : Bs} {F H : Hp} {σ : L2.St} {env : Fm} {E : XE}
theorem Post.look {β α : Type} {R : RL β α} {Q : β → Hp → Prop} {r : Rv} {k : D → M α} (s : SR K B F H σ env) (h : Post K B F σ E R Q (bnd (look r) k env)) : ∃ d, Post K B F σ E R Q (k d env) ∧ ∀ v, rV K B F H σ env v r → Dh K F H v d := by
  unfold bnd DL.look at h
  cases r with
  | fz d => exact ⟨d, h, fun v hv => Or.inl hv⟩
  | sl i =>
    cases e : env[i]? with
    | none => simp only [e] at h; exact h.elim
    | some x =>
      cases x with
      | un => simp only [e] at h; exact h.elim
      | fz d =>
        simp only [e] at h
        refine ⟨d, h, fun v hv => ?_⟩
        obtain ⟨v', h1, h2⟩ := s.fz i d e
        have hv' : σ[i]? = some (some v) := hv
        rw [h1] at hv'
        cases hv'
        exact Or.inl h2
      | ow t d =>
        simp only [e] at h
        refine ⟨d, h, fun v hv => ?_⟩
        obtain ⟨p, o, h1, h2, h3, h4, _⟩ := s.ow i t d e
        have hv' : σ[i]? = some (some v) := hv
        rw [h1] at hv'
        cases hv'
        exact Or.inr ⟨p, o, rfl, h3, h4⟩
theorem rV_mono {F' H' : Hp} {B' : Bs} {env' : Fm} {v : V} {r : Rv} (e : Ex F F') (h : rV K B F H σ env v r) : rV K B' F' H' σ env' v r := by
  cases r with
  | fz d => exact Dr.mono e h
  | sl i => exact h
/-- a new thing stands still from now on -/
theorem SR.frzN (s : SR K B F H σ env) {v : V} {d : D} (h : rN K B F H σ env v d) : ∃ F', Ex F F' ∧ Dr K F' v d ∧ SR K B F' H σ env := by
  obtain ⟨p, o, rfl, h2, h3, h4, h5, h6⟩ := h
  have hx : Ex F (upd F p o) := Ex.new h2
  refine ⟨upd F p o, hx, (h4.mono hx).dr upd_same, fun a u h => ?_, s.ex0.trans hx, s.keep, fun a u h => ?_, s.len, fun j e h7 => ?_, fun j u e h7 => ?_, s.dis⟩
  · by_cases e : a = p
    · subst e; rw [upd_same] at h; rw [h3]; exact h
    · rw [upd_ne e] at h; exact s.ex a u h
  · by_cases e : a = p
    · subst e; exact Or.inr h5
    · rw [upd_ne e] at h; exact s.newF a u h
  · obtain ⟨v, q1, q2⟩ := s.fz j e h7
    exact ⟨v, q1, q2.mono hx⟩
  · obtain ⟨q, o2, g1, g2, g3, g4, g5, g6⟩ := s.ow j u e h7
    have hne : q ≠ p := fun z => by
      subst z
      exact h6 ⟨j, u, e, h7, g1⟩
    exact ⟨q, o2, g1, by rw [upd_ne hne]; exact g2, g3, g4.mono hx, g5, g6⟩
theorem Tr.new_frz {t : TE} {f : M D} (h : Tr K E (rN K) t f) : Tr K E (rD K) t f := fun B F H σ env Q s hq => by
  refine h B F H σ env Q s ?_
  revert hq
  cases f env with
  | no => exact fun hq => hq
  | ex x env' => exact fun hq => hq
  | ok a env' =>
    intro hq b F' H' e1 s1 r1
    obtain ⟨F2, e2, d2, s2⟩ := s1.frzN r1
    exact hq b F2 H' (e1.trans e2) s2 d2
end
end DL

/-! Expressions: each rule of HandS with what it does to data. -/
namespace DL
open PySem L2

structure JE (X : Cx) (K : PySem.W.Frag) (E : XE) (e : Expr) (t : TE) (f : M D) : Prop where
  hK : X.K = K
  pe : PE X e t
  tr : Tr K E (rD K) t f
structure JR (X : Cx) (K : PySem.W.Frag) (E : XE) (e : Expr) (t : TE) (f : M Rv) : Prop where
  hK : X.K = K
  pe : PE X e t
  tr : Tr K E (rV K) t f
structure JN (X : Cx) (K : PySem.W.Frag) (E : XE) (e : Expr) (t : TE) (f : M D) : Prop where
  hK : X.K = K
  pe : PE X e t
  tr : Tr K E (rN K) t f
structure JT (X : Cx) (K : PySem.W.Frag) (E : XE) (e : Expr) (t : TT) (f : M Bool) : Prop where
  hK : X.K = K
  pt : PT X e t
  tr : Tr K E rB t f
structure JW (X : Cx) (K : PySem.W.Frag) (E : XE) (e : Expr) (t : TT) (f : M Bool) : Prop where
  hK : X.K = K
  pw : PW X e t
  tr : Tr K E rB t f
def rVs (K : PySem.W.Frag) : RL (List V) (List Rv) := fun B F H σ env => fun vs => fun rs => match vs, rs with
  | [], [] => True
  | v :: vs, r :: rs => rV K B F H σ env v r ∧ rVs K B F H σ env vs rs
  | _, _ => False
structure JA (X : Cx) (K : PySem.W.Frag) (E : XE) (es : List Expr) (t : TA) (f : M (List Rv)) : Prop where
  hK : X.K = K
  pa : PA X es t
  tr : Tr K E (rVs K) t f
structure JO (X : Cx) (K : PySem.W.Frag) (E : XE) (e : Option Expr) (t : TO) (f : M (Option Int)) : Prop where
  hK : X.K = K
  po : PO X e t
  tr : Tr K E rO t f

/-! ### names, constants -/
def getF (i : Nat) : M D := fun env => match env[i]? with
  | some (.fz d) => .ok d env
  | some (.ow _ d) => .ok d (env.set i (.fz d))
  | _ => .no
def rdV (i : Nat) : M Rv := fun env => match env[i]? with
  | some (.fz _) => .ok (.sl i) env
  | some (.ow _ _) => .ok (.sl i) env
  | _ => .no
section
variable {K : PySem.W.Frag} {B : Bs} {F H : Hp} {σ : L2.St} {env : Fm} {E : XE}
theorem tr_getF (i : Nat) : Tr K E (rD K) (tVar i) (getF i) := by
  intro B F H σ env Q s hq
  unfold getF at hq
  cases e : env[i]? with
  | none => simp only [e] at hq; exact hq.elim
  | some x =>
    cases x with
    | un => simp only [e] at hq; exact hq.elim
    | fz d =>
      simp only [e] at hq
      obtain ⟨v, h1, h2⟩ := s.fz i d e
      exact ⟨v, h1, hq v F H (Ex.refl F) s h2⟩
    | ow t d =>
      simp only [e] at hq
      obtain ⟨v, F', e1, h1, h2, s1⟩ := s.frz e
      exact ⟨v, h1, hq v F' H e1 s1 h2⟩
theorem tr_rdV (i : Nat) : Tr K E (rV K) (tVar i) (rdV i) := by
  intro B F H σ env Q s hq
  unfold rdV at hq
  cases e : env[i]? with
  | none => simp only [e] at hq; exact hq.elim
  | some x =>
    cases x with
    | un => simp only [e] at hq; exact hq.elim
    | fz d =>
      simp only [e] at hq
      obtain ⟨v, h1, h2⟩ := s.fz i d e
      exact ⟨v, h1, hq v F H (Ex.refl F) s h1⟩
    | ow t d =>
      simp only [e] at hq
      obtain ⟨p, o, h1, h2⟩ := s.ow i t d e
      exact ⟨.ref p, h1, hq (.ref p) F H (Ex.refl F) s h1⟩
theorem tr_cst {v : V} {d : D} (h : ∀ F, Dr K F v d) : Tr K E (rD K) (tC v) (ret d) := fun B F H σ env Q s hq => hq v F H (Ex.refl F) s (h F)
def asRv (f : M D) : M Rv := bnd f fun d => ret (.fz d)
theorem Tr.rv {t : TE} {f : M D} (h : Tr K E (rD K) t f) : Tr K E (rV K) t (asRv f) := fun B F H σ env Q s hq =>
  h.step s hq fun d env1 v F1 H1 e1 s1 r1 hq1 => hq1 v F1 H1 (Ex.refl F1) s1 r1
end
section
variable {X : Cx} {K : PySem.W.Frag} {E : XE}
theorem JE.rv {e : Expr} {t : TE} {f : M D} (h : JE X K E e t f) : JR X K E e t (asRv f) := ⟨h.hK, h.pe, h.tr.rv⟩
theorem JN.je {e : Expr} {t : TE} {f : M D} (h : JN X K E e t f) : JE X K E e t f := ⟨h.hK, h.pe, h.tr.new_frz⟩
theorem jv (i : Nat) {x : Str} {pos : Pos} (hK : X.K = K := by rfl) (hN : X.N[i]? = some x := by rfl) (hv : Vis X.env.scope x := by first | exact Or.inl rfl | exact Or.inr (Or.inl rfl) | exact Or.inr (Or.inr rfl)) (hd : (x == ("__debug__" : Str)) = false := by decide)
    (hcd : (x == ("__classdict__" : Str)) = false := by decide) : JE X K E (.Name x pos) (tVar i) (getF i) := ⟨hK, pe_var hN hv hd hcd, tr_getF i⟩
theorem jr (i : Nat) {x : Str} {pos : Pos} (hK : X.K = K := by rfl) (hN : X.N[i]? = some x := by rfl) (hv : Vis X.env.scope x := by first | exact Or.inl rfl | exact Or.inr (Or.inl rfl) | exact Or.inr (Or.inr rfl)) (hd : (x == ("__debug__" : Str)) = false := by decide)
    (hcd : (x == ("__classdict__" : Str)) = false := by decide) : JR X K E (.Name x pos) (tVar i) (rdV i) := ⟨hK, pe_var hN hv hd hcd, tr_rdV i⟩
theorem j_int {i j pos} (hK : X.K = K := by rfl) : JE X K E (.Constant (.int i) j pos) (tC (.int i)) (ret (.int i)) := ⟨hK, pe_int, tr_cst fun _ => .int i⟩
theorem j_bl {b j pos} (hK : X.K = K := by rfl) : JE X K E (.Constant (.bool b) j pos) (tC (.bl b)) (ret (.bl b)) := ⟨hK, pe_bl, tr_cst fun _ => .bl b⟩
theorem j_non {j pos} (hK : X.K = K := by rfl) : JE X K E (.Constant .none j pos) (tC .non) (ret .non) := ⟨hK, pe_non, tr_cst fun _ => .non⟩
theorem j_str {x j pos} (hK : X.K = K := by rfl) : JE X K E (.Constant (.str x) j pos) (tC (.str x)) (ret (.str x)) := ⟨hK, pe_str, tr_cst fun _ => .str x⟩
/-- a constant of the module: how it lies -/
structure GlobD (K : PySem.W.Frag) (mg : Str → Option Value) (x : Str) (v : V) (d : D) : Prop where
  ex : ∃ u, mg x = some u ∧ RelV v u
  dr : ∀ F, Dr K F v d
theorem j_glob {x : Str} {v : V} {d : D} {pos : Pos} (g : GlobD K X.mg x v d) (hg : Gl X x) (hK : X.K = K := by rfl) (hd : (x == ("__debug__" : Str)) = false := by decide) : JE X K E (.Name x pos) (tC v) (ret d) := by
  obtain ⟨u, hm, r⟩ := g.ex
  exact ⟨hK, pe_glob hg hm r hd, tr_cst g.dr⟩
end

/-! ### what a thing that is read is -/
section
variable {K : PySem.W.Frag} {F H : Hp} {v : V}
theorem Dh.non (h : Dh K F H v .non) : v = .non := by
  rcases h with h | ⟨p, o, _, _, h⟩ <;> cases h; rfl
theorem Dh.bl {b : Bool} (h : Dh K F H v (.bl b)) : v = .bl b := by
  rcases h with h | ⟨p, o, _, _, h⟩ <;> cases h; rfl
theorem Dh.int {i : Int} (h : Dh K F H v (.int i)) : v = .int i := by
  rcases h with h | ⟨p, o, _, _, h⟩ <;> cases h; rfl
theorem Dh.str {x : Str} (h : Dh K F H v (.str x)) : v = .str x := by
  rcases h with h | ⟨p, o, _, _, h⟩ <;> cases h; rfl
theorem Dh.lstR {ds : List D} (e : Ex F H) (h : Dh K F H v (.lst ds)) : ∃ a xs, v = .ref a ∧ Rd H a (.lst xs) ∧ DrA K F xs ds := by
  rcases h with h | ⟨p, o, rfl, hp, h⟩
  · cases h with
    | lst h1 h2 => exact ⟨_, _, rfl, e.rd h1, h2⟩
  · cases h with
    | lst h2 => exact ⟨_, _, rfl, Or.inl hp, h2⟩
theorem Dh.lst {ds : List D} (e : Ex F H) (h : Dh K F H v (.lst ds)) : ∃ a xs, v = .ref a ∧ SqL K H a xs ∧ DrA K F xs ds := by
  obtain ⟨a, xs, h1, h2, h3⟩ := h.lstR e
  exact ⟨a, xs, h1, Or.inl h2, h3⟩
theorem Dh.tup {ds : List D} (e : Ex F H) (h : Dh K F H v (.tup ds)) : ∃ a xs, v = .ref a ∧ SqT K H a xs ∧ DrA K F xs ds := by
  rcases h with h | ⟨p, o, rfl, hp, h⟩
  · cases h with
    | tup h1 h2 => exact ⟨_, _, rfl, e.st h1, h2⟩
  · cases h
theorem Dh.dct {kds : List (Key × D)} (e : Ex F H) (h : Dh K F H v (.dct kds)) : ∃ a kvs, v = .ref a ∧ H a = some (.dK kvs) ∧ kvs.map (·.1) = kds.map (·.1) ∧ DrA K F (kvs.map (·.2)) (kds.map (·.2)) := by
  rcases h with h | ⟨p, o, rfl, hp, h⟩
  · cases h with
    | dct h1 h2 h3 => exact ⟨_, _, rfl, e _ _ h1, h2, h3⟩
  · cases h with
    | dct h2 h3 => exact ⟨_, _, rfl, hp, h2, h3⟩
theorem Dh.obj {C : Addr} {gs : List (Str × D)} (e : Ex F H) (h : Dh K F H v (.obj C gs)) : ∃ a dx fs, v = .ref a ∧ H a = some (.ins C dx fs) ∧ fs.map (·.1) = gs.map (·.1) ∧ DrA K F (fs.map (·.2)) (gs.map (·.2)) := by
  rcases h with h | ⟨p, o, rfl, hp, h⟩
  · cases h with
    | obj h1 h2 h3 => exact ⟨_, _, _, rfl, e _ _ h1, h2, h3⟩
  · cases h with
    | obj h2 h3 => exact ⟨_, _, _, rfl, hp, h2, h3⟩
theorem Dh.cls {c : V} (h : Dh K F H v (.cls c)) : v = c := by
  rcases h with h | ⟨p, o, _, _, h⟩ <;> cases h; rfl
theorem Dh.all {d : D} (e : Ex F H) (h : Dh K F H v d) : Dr K H v d := by
  rcases h with h | ⟨p, o, rfl, hp, h⟩
  · exact h.mono e
  · exact (h.mono e).dr hp
end

/-! ### two-place operations -/
/-- on data, what comes stands still -/
def OpD (K : PySem.W.Frag) (r : R2) (g : D → D → Option D) : Prop := ∀ B F H σ env x y a b c Q, SR K B F H σ env → Dh K F H x a → Dh K F H y b → g a b = some c →
  (∀ v F' H', Ex F F' → SR K B F' H' σ env → Dr K F' v c → Q v H') → r x y H Q
/-- .. what comes is new -/
def OpN (K : PySem.W.Frag) (r : R2) (g : D → D → Option D) : Prop := ∀ B F H σ env x y a b c Q, SR K B F H σ env → Dh K F H x a → Dh K F H y b → g a b = some c →
  (∀ v F' H', Ex F F' → SR K B F' H' σ env → rN K B F' H' σ env v c → Q v H') → r x y H Q
theorem OpN.d {K : PySem.W.Frag} {r : R2} {g : D → D → Option D} (h : OpN K r g) : OpD K r g := fun B F H σ env x y a b c Q s hx hy hc q =>
  h B F H σ env x y a b c Q s hx hy hc fun v F' H' e s' n => by
    obtain ⟨F2, e2, d2, s2⟩ := s'.frzN n
    exact q v F2 H' (e.trans e2) s2 d2
def orG (g g' : D → D → Option D) : D → D → Option D := fun a b => match g a b with
  | some c => some c
  | none => g' a b
theorem OpD.or {K : PySem.W.Frag} {r r' : R2} {g g' : D → D → Option D} (h : OpD K r g) (h' : OpD K r' g') : OpD K (fun x y H Q => r x y H Q ∨ r' x y H Q) (orG g g') := fun B F H σ env x y a b c Q s hx hy hc q => by
  unfold orG at hc
  cases e : g a b with
  | some z =>
    rw [e] at hc
    cases hc
    exact Or.inl (h B F H σ env x y a b _ Q s hx hy e q)
  | none =>
    rw [e] at hc
    exact Or.inr (h' B F H σ env x y a b c Q s hx hy hc q)
def mop (g : D → D → Option D) (fa fb : M Rv) : M D := bnd fa fun a => bnd fb fun b => bnd (look a) fun x => bnd (look b) fun y => lft (g x y)
section
variable {K : PySem.W.Frag} {E : XE} {r : R2} {g : D → D → Option D} {ta tb : TE} {fa fb : M Rv}
theorem Tr.op2 (hg : OpD K r g) (ha : Tr K E (rV K) ta fa) (hb : Tr K E (rV K) tb fb) : Tr K E (rD K) (tOp r ta tb) (mop g fa fb) := by
  intro B F H σ env Q s hq
  refine ha.step s hq fun a env1 v F1 H1 e1 s1 r1 hq1 => ?_
  refine hb.step s1 hq1 fun b env2 w F2 H2 e2 s2 r2 hq2 => ?_
  obtain ⟨x, hq3, hx⟩ := Post.look s2 hq2
  obtain ⟨y, hq4, hy⟩ := Post.look s2 hq3
  obtain ⟨c, hc, hq5⟩ := Post.lft hq4
  exact hg B F2 H2 σ env2 v w x y c Q s2 (hx v (rV_mono e2 r1)) (hy w r2) hc hq5
theorem Tr.op2N (hg : OpN K r g) (ha : Tr K E (rV K) ta fa) (hb : Tr K E (rV K) tb fb) : Tr K E (rN K) (tOp r ta tb) (mop g fa fb) := by
  intro B F H σ env Q s hq
  refine ha.step s hq fun a env1 v F1 H1 e1 s1 r1 hq1 => ?_
  refine hb.step s1 hq1 fun b env2 w F2 H2 e2 s2 r2 hq2 => ?_
  obtain ⟨x, hq3, hx⟩ := Post.look s2 hq2
  obtain ⟨y, hq4, hy⟩ := Post.look s2 hq3
  obtain ⟨c, hc, hq5⟩ := Post.lft hq4
  exact hg B F2 H2 σ env2 v w x y c Q s2 (hx v (rV_mono e2 r1)) (hy w r2) hc hq5
end
section
variable {X : Cx} {K : PySem.W.Frag} {E : XE} {r : R2} {g : D → D → Option D} {a b : Expr} {ta tb : TE} {fa fb : M Rv} {pos : Pos}
theorem j_op {op : Operator} (ho : OpR X (binaryOp op) r) (hg : OpD K r g) (ha : JR X K E a ta fa) (hb : JR X K E b tb fb) : JE X K E (.BinOp a op b pos) (tOp r ta tb) (mop g fa fb) := ⟨ha.hK, pe_op ho ha.pe hb.pe, Tr.op2 hg ha.tr hb.tr⟩
theorem j_opN {op : Operator} (ho : OpR X (binaryOp op) r) (hg : OpN K r g) (ha : JR X K E a ta fa) (hb : JR X K E b tb fb) : JN X K E (.BinOp a op b pos) (tOp r ta tb) (mop g fa fb) := ⟨ha.hK, pe_op ho ha.pe hb.pe, Tr.op2N hg ha.tr hb.tr⟩
theorem j_cmp {op : CmpOp} (ho : OpR X (compareOp op) r) (hg : OpD K r g) (ha : JR X K E a ta fa) (hb : JR X K E b tb fb) (hm : behindInMarks op b = false) : JE X K E (.Compare a [op] [b] pos) (tOp r ta tb) (mop g fa fb) := ⟨ha.hK, pe_cmpR ho ha.pe hb.pe hm, Tr.op2 hg ha.tr hb.tr⟩
end

/-! ### ints -/
def intG (C : Int → Int → Bool) (h : Int → Int → D) : D → D → Option D := fun a b => match a, b with
  | .int i, .int j => if C i j then some (h i j) else none
  | _, _ => none
section
variable {K : PySem.W.Frag}
theorem opd_I {C : Int → Int → Prop} {C' : Int → Int → Bool} {g : Int → Int → V} {h : Int → Int → D} (hc : ∀ i j, C' i j = true → C i j) (hd : ∀ F i j, Dr K F (g i j) (h i j)) : OpD K (rI C g) (intG C' h) := by
  intro B F H σ env x y a b c Q s hx hy hg q
  unfold intG at hg
  split at hg
  · rename_i i j
    split at hg
    · rename_i hij
      cases hg
      exact ⟨i, j, hx.int, hy.int, hc i j hij, q _ F H (Ex.refl F) s (hd F i j)⟩
    · cases hg
  · cases hg
theorem opd_I0 {g : Int → Int → V} {h : Int → Int → D} (hd : ∀ F i j, Dr K F (g i j) (h i j)) : OpD K (rI0 g) (intG (fun _ _ => true) h) := by
  intro B F H σ env x y a b c Q s hx hy hg q
  unfold intG at hg
  split at hg
  · rename_i i j
    rw [if_pos rfl] at hg
    cases hg
    exact ⟨i, j, hx.int, hy.int, q _ F H (Ex.refl F) s (hd F i j)⟩
  · cases hg
def cMul (i j : Int) : Bool := decide (-(2 ^ 64) < i ∧ i < 2 ^ 64) || decide (-(2 ^ 64) < j ∧ j < 2 ^ 64)
def cDiv (_ j : Int) : Bool := decide (0 < j ∧ j < 1073741824)
def cMod (_ j : Int) : Bool := decide (0 < j)
def cPow (i j : Int) : Bool := decide (0 ≤ j ∧ j ≤ 1000000 ∧ i.natAbs < 2 ^ 64)
def addG := intG (fun _ _ => true) fun i j => .int (i + j)
def subG := intG (fun _ _ => true) fun i j => .int (i - j)
def mulG := intG cMul fun i j => .int (i * j)
def divG := intG cDiv fun i j => .int (i / j)
def modG := intG cMod fun i j => .int (i % j)
def powG := intG cPow fun i j => .int (i ^ j.toNat)
def ltG := intG (fun _ _ => true) fun i j => .bl (decide (i < j))
def leG := intG (fun _ _ => true) fun i j => .bl (decide (i ≤ j))
def gtG := intG (fun _ _ => true) fun i j => .bl (decide (j < i))
def geG := intG (fun _ _ => true) fun i j => .bl (decide (j ≤ i))
theorem od_add : OpD K (rI0 fun i j => .int (i + j)) addG := opd_I0 fun _ _ _ => .int _
theorem od_sub : OpD K (rI0 fun i j => .int (i - j)) subG := opd_I0 fun _ _ _ => .int _
theorem od_mul : OpD K (rI CMul fun i j => .int (i * j)) mulG := opd_I (fun i j h => by
  unfold cMul at h
  rw [Bool.or_eq_true] at h
  rcases h with h | h
  · exact Or.inl (of_decide_eq_true h)
  · exact Or.inr (of_decide_eq_true h)) fun _ _ _ => .int _
theorem od_div : OpD K (rI CDiv fun i j => .int (i / j)) divG := opd_I (fun i j h => (of_decide_eq_true h : 0 < j ∧ j < 1073741824)) fun _ _ _ => .int _
theorem od_mod : OpD K (rI (fun _ j => 0 < j) fun i j => .int (i % j)) modG := opd_I (fun i j h => of_decide_eq_true h) fun _ _ _ => .int _
theorem od_pow : OpD K (rI CPow fun i j => .int (i ^ j.toNat)) powG := opd_I (fun i j h => (of_decide_eq_true h : 0 ≤ j ∧ j ≤ 1000000 ∧ i.natAbs < 2 ^ 64)) fun _ _ _ => .int _
theorem od_lt : OpD K (rI0 fun i j => .bl (decide (i < j))) ltG := opd_I0 fun _ _ _ => .bl _
theorem od_le : OpD K (rI0 fun i j => .bl (decide (i ≤ j))) leG := opd_I0 fun _ _ _ => .bl _
theorem od_gt : OpD K (rI0 fun i j => .bl (decide (j < i))) gtG := opd_I0 fun _ _ _ => .bl _
theorem od_ge : OpD K (rI0 fun i j => .bl (decide (j ≤ i))) geG := opd_I0 fun _ _ _ => .bl _
end

/-! ### texts -/
def catSG : D → D → Option D := fun a b => match a, b with
  | .str x, .str y => if x.length + y.length ≤ sizeLine then some (.str (x ++ y)) else none
  | _, _ => none
def inSG : D → D → Option D := fun a b => match a, b with
  | .str x, .str z => match x.cps.toList with
    | [c] => some (.bl (decide (c ∈ z.cps.toList)))
    | _ => none
  | _, _ => none
def notInSG : D → D → Option D := fun a b => match a, b with
  | .str x, .str z => match x.cps.toList with
    | [c] => some (.bl (!decide (c ∈ z.cps.toList)))
    | _ => none
  | _, _ => none
section
variable {K : PySem.W.Frag}
theorem od_catS : OpD K (fun x y H Q => ∃ i j, x = .str i ∧ y = .str j ∧ i.length + j.length ≤ sizeLine ∧ Q (.str (i ++ j)) H) catSG := by
  intro B F H σ env x y a b c Q s hx hy hg q
  unfold catSG at hg
  split at hg
  · split at hg
    · rename_i hij
      cases hg
      exact ⟨_, _, hx.str, hy.str, hij, q _ F H (Ex.refl F) s (.str _)⟩
    · cases hg
  · cases hg
theorem od_inS : OpD K (fun x y H Q => ∃ (c : Nat) (z : Str), x = .str ⟨#[c]⟩ ∧ y = .str z ∧ Q (.bl (decide (c ∈ z.cps.toList))) H) inSG := by
  intro B F H σ env x y a b c Q s hx hy hg q
  unfold inSG at hg
  split at hg
  · split at hg
    · rename_i x' z _ c' he
      cases hg
      have e : x' = ⟨#[c']⟩ := by
        obtain ⟨⟨l⟩⟩ := x'
        have he' : l = [c'] := he
        rw [he']
      exact ⟨c', z, by rw [hx.str, e], hy.str, q _ F H (Ex.refl F) s (.bl _)⟩
    · cases hg
  · cases hg
theorem od_notInS : OpD K (fun x y H Q => ∃ (c : Nat) (z : Str), x = .str ⟨#[c]⟩ ∧ y = .str z ∧ Q (.bl (!decide (c ∈ z.cps.toList))) H) notInSG := by
  intro B F H σ env x y a b c Q s hx hy hg q
  unfold notInSG at hg
  split at hg
  · split at hg
    · rename_i x' z _ c' he
      cases hg
      have e : x' = ⟨#[c']⟩ := by
        obtain ⟨⟨l⟩⟩ := x'
        have he' : l = [c'] := he
        rw [he']
      exact ⟨c', z, by rw [hx.str, e], hy.str, q _ F H (Ex.refl F) s (.bl _)⟩
    · cases hg
  · cases hg
end

/-! ### == of data -/
mutual
def pd : D → PyData
  | .non => .none
  | .bl b => .bool b
  | .int i => .int i
  | .str x => .str x
  | .lst ds => .list (pds ds)
  | .tup ds => .tuple (pds ds)
  | .dct _ => .dict []
  | .obj _ _ => .dict []
  | .cls _ => .dict []
def pds : List D → List PyData
  | [] => []
  | d :: ds => pd d :: pds ds
end
theorem Dr.pd {K : PySem.W.Frag} {F : Hp} {v : V} {d : D} (h : Dr K F v d) : (DL.pd d).canLay0 = true → Dp K F v (DL.pd d) :=
  Dr.rec (motive_1 := fun v d _ => (DL.pd d).canLay0 = true → Dp K F v (DL.pd d)) (motive_2 := fun vs ds _ => PyData.canLayAll0 (pds ds) = true → DpAll K F vs (pds ds))
    (fun _ => by rw [DL.pd]; exact .non) (fun b _ => by rw [DL.pd]; exact .bl b) (fun i _ => by rw [DL.pd]; exact .int i) (fun x _ => by rw [DL.pd]; exact .str x)
    (fun h _ ih c => by rw [DL.pd] at c ⊢; exact .lst (Or.inl h) (ih (by simpa only [PyData.canLay0] using c)))
    (fun h _ ih c => by rw [DL.pd] at c ⊢; exact .tup h (ih (by simpa only [PyData.canLay0] using c)))
    (fun _ _ _ _ c => by rw [DL.pd] at c; simp [PyData.canLay0] at c) (fun _ _ _ _ c => by rw [DL.pd] at c; simp [PyData.canLay0] at c) (fun _ c => by rw [DL.pd] at c; simp [PyData.canLay0] at c)
    (fun _ => by rw [pds]; exact .nil)
    (fun _ _ ih ih2 c => by
      rw [pds] at c ⊢
      rw [PyData.canLayAll0, Bool.and_eq_true] at c
      exact .cons (ih c.1) (ih2 c.2)) h
/-- plain data, not too deep: can be compared -/
def shp (d : D) : Bool := SeqAt.shaped (pd d)
def eqG : D → D → Option D := fun a b => match a, b with
  | .int i, .int j => some (.bl (decide (i = j)))
  | .str i, .str j => some (.bl (decide (i = j)))
  | .bl i, .bl j => some (.bl (decide (i = j)))
  | a, b => if shp a && shp b then some (.bl (PyData.eqv (pd a) (pd b))) else none
def neG : D → D → Option D := fun a b => match a, b with
  | .int i, .int j => some (.bl (!decide (i = j)))
  | .str i, .str j => some (.bl (!decide (i = j)))
  | .bl i, .bl j => some (.bl (!decide (i = j)))
  | a, b => if shp a && shp b then some (.bl (!PyData.eqv (pd a) (pd b))) else none
section
variable {K : PySem.W.Frag} {X : Cx}
theorem decV_int (i j : Int) : decide (V.int i = V.int j) = decide (i = j) := by
  by_cases e : i = j
  · subst e; simp
  · rw [decide_eq_false e, decide_eq_false fun h => e (V.int.inj h)]
theorem decV_str (i j : Str) : decide (V.str i = V.str j) = decide (i = j) := by
  by_cases e : i = j
  · subst e; simp
  · rw [decide_eq_false e, decide_eq_false fun h => e (V.str.inj h)]
theorem decV_bl (i j : Bool) : decide (V.bl i = V.bl j) = decide (i = j) := by
  by_cases e : i = j
  · subst e; simp
  · rw [decide_eq_false e, decide_eq_false fun h => e (V.bl.inj h)]
abbrev rEqA (K : PySem.W.Frag) : R2 := fun x y H Q => rEq x y H Q ∨ rEqD K x y H Q
abbrev rNeA (K : PySem.W.Frag) : R2 := fun x y H Q => rNe x y H Q ∨ rNeD K x y H Q
theorem od_eq : OpD K (rEqA K) eqG := by
  intro B F H σ env x y a b c Q s hx hy hg q
  unfold eqG at hg
  split at hg
  · cases hg
    rw [hx.int, hy.int]
    exact Or.inl ⟨rfl, by rw [decV_int]; exact q _ F H (Ex.refl F) s (.bl _)⟩
  · cases hg
    rw [hx.str, hy.str]
    exact Or.inl ⟨rfl, by rw [decV_str]; exact q _ F H (Ex.refl F) s (.bl _)⟩
  · cases hg
    rw [hx.bl, hy.bl]
    exact Or.inl ⟨rfl, by rw [decV_bl]; exact q _ F H (Ex.refl F) s (.bl _)⟩
  · split at hg
    · rename_i hs
      cases hg
      rw [Bool.and_eq_true] at hs
      exact Or.inr ⟨_, _, (hx.all s.ex).pd (SeqAt.canLay_of_shaped hs.1), (hy.all s.ex).pd (SeqAt.canLay_of_shaped hs.2), hs.1, hs.2, q _ F H (Ex.refl F) s (.bl _)⟩
    · cases hg
theorem od_ne : OpD K (rNeA K) neG := by
  intro B F H σ env x y a b c Q s hx hy hg q
  unfold neG at hg
  split at hg
  · cases hg
    rw [hx.int, hy.int]
    exact Or.inl ⟨rfl, by rw [decV_int]; exact q _ F H (Ex.refl F) s (.bl _)⟩
  · cases hg
    rw [hx.str, hy.str]
    exact Or.inl ⟨rfl, by rw [decV_str]; exact q _ F H (Ex.refl F) s (.bl _)⟩
  · cases hg
    rw [hx.bl, hy.bl]
    exact Or.inl ⟨rfl, by rw [decV_bl]; exact q _ F H (Ex.refl F) s (.bl _)⟩
  · split at hg
    · rename_i hs
      cases hg
      rw [Bool.and_eq_true] at hs
      exact Or.inr ⟨_, _, (hx.all s.ex).pd (SeqAt.canLay_of_shaped hs.1), (hy.all s.ex).pd (SeqAt.canLay_of_shaped hs.2), hs.1, hs.2, q _ F H (Ex.refl F) s (.bl _)⟩
    · cases hg
theorem op_eqA (hu : X.A.units + 64 < cLine) (hK : X.K = K := by rfl) : OpR X (compareOp .Eq) (rEqA K) := by
  subst hK
  exact op_eq.or (op_eqD hu)
theorem op_neA (hu : X.A.units + 64 < cLine) (hK : X.K = K := by rfl) : OpR X (compareOp .NotEq) (rNeA K) := by
  subst hK
  exact op_ne.or (op_neD hu)
end
/-! ### is -/
def isNon : D → Option Bool
  | .non => some true
  | .cls _ => none
  | _ => some false
def isNG : D → D → Option D := fun a b => match b with
  | .non => (isNon a).map .bl
  | _ => none
def notNG : D → D → Option D := fun a b => match b with
  | .non => (isNon a).map fun k => .bl (!k)
  | _ => none
def isBG : D → D → Option D := fun a b => match a, b with
  | .bl i, .bl j => some (.bl (decide (i = j)))
  | _, _ => none
def notBG : D → D → Option D := fun a b => match a, b with
  | .bl i, .bl j => some (.bl (!decide (i = j)))
  | _, _ => none
section
variable {K : PySem.W.Frag}
theorem Dh.isN {F H : Hp} {x : V} {a : D} {k : Bool} (hc : isNon a = some k) (h : Dh K F H x a) : decide (x = .non) = k := by
  rcases h with h | ⟨p, o, rfl, _, h⟩
  · cases h <;> first | (cases hc; rfl) | cases hc
  · cases h <;> (cases hc; rfl)
theorem od_isN : OpD K (fun x y H Q => y = .non ∧ Q (.bl (decide (x = .non))) H) isNG := by
  intro B F H σ env x y a b c Q s hx hy hg q
  unfold isNG at hg
  split at hg
  · cases e : isNon a with
    | none => rw [e] at hg; cases hg
    | some k =>
      rw [e] at hg
      cases hg
      exact ⟨hy.non, by rw [hx.isN e]; exact q _ F H (Ex.refl F) s (.bl _)⟩
  · cases hg
theorem od_notN : OpD K (fun x y H Q => y = .non ∧ Q (.bl (!decide (x = .non))) H) notNG := by
  intro B F H σ env x y a b c Q s hx hy hg q
  unfold notNG at hg
  split at hg
  · cases e : isNon a with
    | none => rw [e] at hg; cases hg
    | some k =>
      rw [e] at hg
      cases hg
      exact ⟨hy.non, by rw [hx.isN e]; exact q _ F H (Ex.refl F) s (.bl _)⟩
  · cases hg
theorem od_isB : OpD K rIsB isBG := by
  intro B F H σ env x y a b c Q s hx hy hg q
  unfold isBG at hg
  split at hg
  · cases hg
    exact ⟨_, _, hx.bl, hy.bl, q _ F H (Ex.refl F) s (.bl _)⟩
  · cases hg
theorem od_notB : OpD K rNotB notBG := by
  intro B F H σ env x y a b c Q s hx hy hg q
  unfold notBG at hg
  split at hg
  · cases hg
    exact ⟨_, _, hx.bl, hy.bl, q _ F H (Ex.refl F) s (.bl _)⟩
  · cases hg
end
end DL

/-! Tests, built-ins, subscripts, displays. -/
namespace DL
open PySem L2

/-! ### tests -/
def nope {α : Type} : M α := fun _ => .no
def asB : D → M Bool
  | .bl b => ret b
  | _ => nope
def ifM {α : Type} (c : M Bool) (a b : M α) : M α := bnd c fun k => if k then a else b
def notM (c : M Bool) : M Bool := bnd c fun k => ret (!k)
section
variable {K : PySem.W.Frag} {B : Bs} {F H : Hp} {σ : L2.St} {env : Fm} {E : XE}
theorem Post.asB {β α : Type} {R : RL β α} {Q : β → Hp → Prop} {d : D} {k : Bool → M α} (h : Post K B F σ E R Q (bnd (asB d) k env)) : ∃ b, d = .bl b ∧ Post K B F σ E R Q (k b env) := by
  unfold DL.asB bnd at h
  cases d <;> first | exact ⟨_, rfl, h⟩ | exact h.elim
theorem tr_tTest {t : TE} {f : M D} (h : Tr K E (rD K) t f) : Tr K E rB (tTest t) (bnd f asB) := fun B F H σ env Q s hq => by
  refine h.step s hq fun d env1 v F1 H1 e1 s1 r1 hq1 => ?_
  unfold asB at hq1
  cases d <;> first | exact hq1.elim | skip
  cases r1
  exact ⟨_, rfl, hq1 _ F1 H1 (Ex.refl F1) s1 rfl⟩
theorem tr_tB {t : TE} {f : M D} (h : Tr K E (rD K) t f) : Tr K E rB (tB t) (bnd f asB) := fun B F H σ env Q s hq => by
  refine h.step s hq fun d env1 v F1 H1 e1 s1 r1 hq1 => ?_
  unfold asB at hq1
  cases d <;> first | exact hq1.elim | skip
  cases r1
  exact ⟨_, rfl, hq1 _ F1 H1 (Ex.refl F1) s1 rfl⟩
theorem tr_not {t : TT} {f : M Bool} (h : Tr K E rB t f) : Tr K E rB (tNot t) (notM f) := fun B F H σ env Q s hq =>
  h.step s hq fun b env1 k F1 H1 e1 s1 r1 hq1 => by
    cases r1
    exact hq1 _ F1 H1 (Ex.refl F1) s1 rfl
theorem tr_and {t u : TT} {f g : M Bool} (h : Tr K E rB t f) (h' : Tr K E rB u g) : Tr K E rB (tAnd t u) (ifM f g (ret false)) := fun B F H σ env Q s hq =>
  h.step s hq fun b env1 k F1 H1 e1 s1 r1 hq1 => by
    cases r1
    cases b with
    | true => exact iteT (h' B F1 H1 σ env1 Q s1 hq1)
    | false => exact iteF (hq1 _ F1 H1 (Ex.refl F1) s1 rfl)
theorem tr_or {t u : TT} {f g : M Bool} (h : Tr K E rB t f) (h' : Tr K E rB u g) : Tr K E rB (tOr t u) (ifM f (ret true) g) := fun B F H σ env Q s hq =>
  h.step s hq fun b env1 k F1 H1 e1 s1 r1 hq1 => by
    cases r1
    cases b with
    | true => exact iteT (hq1 _ F1 H1 (Ex.refl F1) s1 rfl)
    | false => exact iteF (h' B F1 H1 σ env1 Q s1 hq1)
theorem tr_if {t : TT} {ta tb : TE} {c : M Bool} {f g : M D} (h : Tr K E rB t c) (ha : Tr K E (rD K) ta f) (hb : Tr K E (rD K) tb g) : Tr K E (rD K) (tIf t ta tb) (ifM c f g) := fun B F H σ env Q s hq =>
  h.step s hq fun b env1 k F1 H1 e1 s1 r1 hq1 => by
    cases r1
    cases b with
    | true => exact iteT (ha B F1 H1 σ env1 Q s1 hq1)
    | false => exact iteF (hb B F1 H1 σ env1 Q s1 hq1)
def andV (f g : M D) : M D := bnd f fun d => bnd (asB d) fun k => if k then g else ret (.bl false)
def orV (f g : M D) : M D := bnd f fun d => bnd (asB d) fun k => if k then ret (.bl true) else g
def notV (f : M D) : M D := bnd f fun d => bnd (asB d) fun k => ret (.bl (!k))
theorem tr_andV {ta tb : TE} {f g : M D} (ha : Tr K E (rD K) ta f) (hb : Tr K E (rD K) tb g) : Tr K E (rD K) (tAndV ta tb) (andV f g) := fun B F H σ env Q s hq =>
  ha.step s hq fun d env1 v F1 H1 e1 s1 r1 hq1 => by
    obtain ⟨k, rfl, hq2⟩ := Post.asB hq1
    cases r1
    cases k with
    | true => exact ⟨_, rfl, iteT (hb B F1 H1 σ env1 Q s1 hq2)⟩
    | false => exact ⟨_, rfl, iteF (hq2 _ F1 H1 (Ex.refl F1) s1 (.bl _))⟩
theorem tr_orV {ta tb : TE} {f g : M D} (ha : Tr K E (rD K) ta f) (hb : Tr K E (rD K) tb g) : Tr K E (rD K) (tOrV ta tb) (orV f g) := fun B F H σ env Q s hq =>
  ha.step s hq fun d env1 v F1 H1 e1 s1 r1 hq1 => by
    obtain ⟨k, rfl, hq2⟩ := Post.asB hq1
    cases r1
    cases k with
    | true => exact ⟨_, rfl, iteT (hq2 _ F1 H1 (Ex.refl F1) s1 (.bl _))⟩
    | false => exact ⟨_, rfl, iteF (hb B F1 H1 σ env1 Q s1 hq2)⟩
theorem tr_notV {ta : TE} {f : M D} (ha : Tr K E (rD K) ta f) : Tr K E (rD K) (tNotV ta) (notV f) := fun B F H σ env Q s hq =>
  ha.step s hq fun d env1 v F1 H1 e1 s1 r1 hq1 => by
    obtain ⟨k, rfl, hq2⟩ := Post.asB hq1
    cases r1
    exact ⟨_, rfl, hq2 _ F1 H1 (Ex.refl F1) s1 (.bl _)⟩
def chainM (g g' : D → D → Option D) (fa fb fc : M Rv) : M D := bnd fa fun a => bnd fb fun b => bnd (look a) fun x => bnd (look b) fun y => bnd (lft (g x y)) fun z => bnd (asB z) fun k =>
  if k then bnd fc fun c => bnd (look b) fun y => bnd (look c) fun w => lft (g' y w) else ret (.bl false)
theorem Post.bind_lft {β α γ : Type} {R : RL β α} {Q : β → Hp → Prop} {o : Option γ} {k : γ → M α} (h : Post K B F σ E R Q (bnd (DL.lft o) k env)) : ∃ c, o = some c ∧ Post K B F σ E R Q (k c env) := by
  unfold bnd DL.lft at h
  cases o with
  | none => exact h.elim
  | some c => exact ⟨c, rfl, h⟩
theorem tr_chain {r r' : R2} {g g' : D → D → Option D} {ta tb tc : TE} {fa fb fc : M Rv} (hg : OpD K r g) (hg' : OpD K r' g') (ha : Tr K E (rV K) ta fa) (hb : Tr K E (rV K) tb fb) (hc : Tr K E (rV K) tc fc) :
    Tr K E (rD K) (tChain r r' ta tb tc) (chainM g g' fa fb fc) := by
  intro B F H σ env Q s hq
  refine ha.step s hq fun a env1 v F1 H1 e1 s1 r1 hq1 => ?_
  refine hb.step s1 hq1 fun b env2 w F2 H2 e2 s2 r2 hq2 => ?_
  obtain ⟨x, hq3, hx⟩ := Post.look s2 hq2
  obtain ⟨y, hq4, hy⟩ := Post.look s2 hq3
  obtain ⟨z, hz, hq5⟩ := Post.bind_lft hq4
  obtain ⟨k, rfl, hq6⟩ := Post.asB hq5
  refine hg B F2 H2 σ env2 v w x y _ _ s2 (hx v (rV_mono e2 r1)) (hy w r2) hz fun v' F' H' e3 s3 d3 => ?_
  cases d3
  have lift : ∀ {γ : Res D}, Post K B F2 σ E (rD K) Q γ → Post K B F' σ E (rD K) Q γ := fun {γ} hp => by
    cases γ with
    | no => exact hp
    | ex x env' => exact fun c dd F'' H'' e s x => hp c dd F'' H'' (e3.trans e) s x
    | ok a' env' => exact fun b' F'' H'' e s r => hp b' F'' H'' (e3.trans e) s r
  cases k with
  | false => exact ⟨false, rfl, iteF (lift hq6 _ F' H' (Ex.refl F') s3 (.bl _))⟩
  | true =>
    refine ⟨true, rfl, iteT ?_⟩
    refine hc.step s3 (lift hq6) fun c env3 u F4 H4 e4 s4 r4 hq7 => ?_
    obtain ⟨y', hq8, hy'⟩ := Post.look s4 hq7
    obtain ⟨w', hq9, hw'⟩ := Post.look s4 hq8
    obtain ⟨c', hc', hq10⟩ := Post.lft hq9
    exact hg' B F4 H4 σ env3 w u y' w' c' Q s4 (hy' w (rV_mono (e3.trans e4) r2)) (hw' u r4) hc' hq10
end
section
variable {X : Cx} {K : PySem.W.Frag} {E : XE} {a b c : Expr} {pos : Pos} {ta tb tc : TE} {t u : TT}
theorem jt_cmp {op : CmpOp} {r : R2} {g : D → D → Option D} {fa fb : M Rv} (ho : OpR X (compareOp op) r) (hg : OpD K r g) (ha : JR X K E a ta fa) (hb : JR X K E b tb fb) (hm : behindInMarks op b = false) :
    JT X K E (.Compare a [op] [b] pos) (tTest (tOp r ta tb)) (bnd (mop g fa fb) asB) := ⟨ha.hK, pt_cmpR ho ha.pe hb.pe hm, tr_tTest (Tr.op2 hg ha.tr hb.tr)⟩
theorem jt_val {f : M D} (h : JE X K E a ta f) (he : ∀ whole, isTrue a X.env whole = (do let v ← whole; standAt a.pos; holding [v] (truthy v)) := by intro _; rfl) : JT X K E a (tB ta) (bnd f asB) := ⟨h.hK, pt_val h.pe he, tr_tB h.tr⟩
theorem jt_not {f : M Bool} (h : JT X K E a t f) : JT X K E (.UnaryOp .Not a pos) (tNot t) (notM f) := ⟨h.hK, pt_not h.pt, tr_not h.tr⟩
theorem jw_and1 {f : M Bool} (h : JT X K E a t f) : JW X K E (.BoolOp .And [a] pos) t f := ⟨h.hK, pw_and1 h.pt, h.tr⟩
theorem jw_or1 {f : M Bool} (h : JT X K E a t f) : JW X K E (.BoolOp .Or [a] pos) t f := ⟨h.hK, pw_or1 h.pt, h.tr⟩
theorem jw_and {f g : M Bool} {rest : List Expr} (h : JT X K E a t f) (h' : JW X K E (.BoolOp .And (b :: rest) pos) u g) : JW X K E (.BoolOp .And (a :: b :: rest) pos) (tAnd t u) (ifM f g (ret false)) := ⟨h.hK, pw_and h.pt h'.pw, tr_and h.tr h'.tr⟩
theorem jw_or {f g : M Bool} {rest : List Expr} (h : JT X K E a t f) (h' : JW X K E (.BoolOp .Or (b :: rest) pos) u g) : JW X K E (.BoolOp .Or (a :: b :: rest) pos) (tOr t u) (ifM f (ret true) g) := ⟨h.hK, pw_or h.pt h'.pw, tr_or h.tr h'.tr⟩
theorem JW.jt {f : M Bool} (h : JW X K E a t f) : JT X K E a t f := ⟨h.hK, h.pw.pt, h.tr⟩
theorem j_if {k : M Bool} {f g : M D} (h : JT X K E c t k) (ha : JE X K E a ta f) (hb : JE X K E b tb g) : JE X K E (.IfExp c a b pos) (tIf t ta tb) (ifM k f g) := ⟨h.hK, pe_ifExp h.pt ha.pe hb.pe, tr_if h.tr ha.tr hb.tr⟩
theorem j_one {op} {f : M D} (h : JE X K E a ta f) : JE X K E (.BoolOp op [a] pos) ta f := ⟨h.hK, pe_one h.pe, h.tr⟩
theorem j_and {f g : M D} {rest : List Expr} (ha : JE X K E a ta f) (hb : JE X K E (.BoolOp .And (b :: rest) pos) tb g) : JE X K E (.BoolOp .And (a :: b :: rest) pos) (tAndV ta tb) (andV f g) := ⟨ha.hK, pe_and ha.pe hb.pe, tr_andV ha.tr hb.tr⟩
theorem j_or {f g : M D} {rest : List Expr} (ha : JE X K E a ta f) (hb : JE X K E (.BoolOp .Or (b :: rest) pos) tb g) : JE X K E (.BoolOp .Or (a :: b :: rest) pos) (tOrV ta tb) (orV f g) := ⟨ha.hK, pe_or ha.pe hb.pe, tr_orV ha.tr hb.tr⟩
theorem j_not {f : M D} (ha : JE X K E a ta f) : JE X K E (.UnaryOp .Not a pos) (tNotV ta) (notV f) := ⟨ha.hK, pe_not ha.pe, tr_notV ha.tr⟩
theorem j_chain {op op' : CmpOp} {r r' : R2} {g g' : D → D → Option D} {fa fb fc : M Rv} (ho : OpR X (compareOp op) r) (hg : OpD K r g) (ho' : OpR X (compareOp op') r') (hg' : OpD K r' g') (ha : JR X K E a ta fa) (hb : JR X K E b tb fb) (hc : JR X K E c tc fc)
    (hm : lastMarks [op, op'] [b, c] = false := by with_unfolding_all rfl) : JE X K E (.Compare a [op, op'] [b, c] pos) (tChain r r' ta tb tc) (chainM g g' fa fb fc) := ⟨ha.hK, pe_chain ho ho' ha.pe hb.pe hc.pe hm, tr_chain hg hg' ha.tr hb.tr hc.tr⟩
theorem jt_chain {op op' : CmpOp} {r r' : R2} {g g' : D → D → Option D} {fa fb fc : M Rv} (ho : OpR X (compareOp op) r) (hg : OpD K r g) (ho' : OpR X (compareOp op') r') (hg' : OpD K r' g') (ha : JR X K E a ta fa) (hb : JR X K E b tb fb) (hc : JR X K E c tc fc)
    (hm : lastMarks [op, op'] [b, c] = false := by with_unfolding_all rfl) : JT X K E (.Compare a [op, op'] [b, c] pos) (tTest (tChain r r' ta tb tc)) (bnd (chainM g g' fa fb fc) asB) := ⟨ha.hK, pt_chain ho ho' ha.pe hb.pe hc.pe hm, tr_tTest (tr_chain hg hg' ha.tr hb.tr hc.tr)⟩
end
/-! ### -n -/
def negM (f : M Rv) : M D := bnd f fun a => bnd (look a) fun x => match x with
  | .int i => ret (.int (-i))
  | _ => nope
theorem j_neg {X : Cx} {K : PySem.W.Frag} {E : XE} {a : Expr} {pos : Pos} {ta : TE} {f : M Rv} (h : JR X K E a ta f) : JE X K E (.UnaryOp .USub a pos) (tUn (rU fun i => .int (-i)) ta) (negM f) := by
  refine ⟨h.hK, pe_un un_neg h.pe, fun B F H σ env Q s hq => ?_⟩
  refine h.tr.step s hq fun a env1 v F1 H1 e1 s1 r1 hq1 => ?_
  obtain ⟨x, hq2, hx⟩ := Post.look s1 hq1
  cases x <;> first | exact hq2.elim | skip
  rename_i i
  exact ⟨i, (hx v r1).int, hq2 _ F1 H1 (Ex.refl F1) s1 (.int _)⟩

/-! ### arguments -/
section
variable {K : PySem.W.Frag} {B : Bs} {F H : Hp} {σ : L2.St} {env : Fm} {E : XE}
theorem rVs_mono {F' H' : Hp} {B' : Bs} {env' : Fm} (e : Ex F F') : ∀ {vs : List V} {rs : List Rv}, rVs K B F H σ env vs rs → rVs K B' F' H' σ env' vs rs
  | [], [], _ => trivial
  | v :: vs, r :: rs, h => ⟨rV_mono e h.1, rVs_mono e h.2⟩
  | [], _ :: _, h => h.elim
  | _ :: _, [], h => h.elim
def consM (f : M Rv) (g : M (List Rv)) : M (List Rv) := bnd f fun r => bnd g fun rs => ret (r :: rs)
theorem tr_nil : Tr K E (rVs K) tNil (ret []) := fun B F H σ env Q s hq => hq [] F H (Ex.refl F) s trivial
theorem tr_cons {ta : TE} {tr : TA} {f : M Rv} {g : M (List Rv)} (ha : Tr K E (rV K) ta f) (hr : Tr K E (rVs K) tr g) : Tr K E (rVs K) (tCons ta tr) (consM f g) := fun B F H σ env Q s hq =>
  ha.step s hq fun r env1 v F1 H1 e1 s1 r1 hq1 => hr.step s1 hq1 fun rs env2 vs F2 H2 e2 s2 r2 hq2 => hq2 (v :: vs) F2 H2 (Ex.refl F2) s2 ⟨rV_mono e2 r1, r2⟩
end
theorem ja_nil {X : Cx} {K : PySem.W.Frag} {E : XE} (hK : X.K = K := by rfl) : JA X K E [] tNil (ret []) := ⟨hK, pa_nil, tr_nil⟩
theorem ja_cons {X : Cx} {K : PySem.W.Frag} {E : XE} {e : Expr} {es : List Expr} {ta : TE} {t : TA} {f : M Rv} {g : M (List Rv)} (ha : JR X K E e ta f) (hr : JA X K E es t g) (hs : starEach (e :: es) X.env = (false, eval e X.env) :: starEach es X.env := by rfl) :
    JA X K E (e :: es) (tCons ta t) (consM f g) := ⟨ha.hK, pa_cons ha.pe hr.pa hs, tr_cons ha.tr hr.tr⟩

/-! ### calls of built-ins -/
def DhA (K : PySem.W.Frag) (F H : Hp) : List V → List D → Prop
  | [], [] => True
  | v :: vs, d :: ds => Dh K F H v d ∧ DhA K F H vs ds
  | _, _ => False
def looks : List Rv → M (List D)
  | [] => ret []
  | r :: rs => bnd (look r) fun d => bnd (looks rs) fun ds => ret (d :: ds)
section
variable {K : PySem.W.Frag} {B : Bs} {F H : Hp} {σ : L2.St} {env : Fm} {E : XE}
theorem bnd_assoc {α β γ : Type} (f : M α) (g : α → M β) (h : β → M γ) : bnd (bnd f g) h = bnd f fun a => bnd (g a) h := by
  funext env
  unfold bnd
  cases f env <;> rfl
theorem bnd_ret {α β : Type} (a : α) (g : α → M β) : bnd (ret a) g = g a := rfl
theorem Post.looks {β α : Type} {R : RL β α} {Q : β → Hp → Prop} (s : SR K B F H σ env) : ∀ {rs : List Rv} {k : List D → M α}, Post K B F σ E R Q (bnd (looks rs) k env) → ∃ ds, Post K B F σ E R Q (k ds env) ∧ ∀ vs, rVs K B F H σ env vs rs → DhA K F H vs ds
  | [], k, h => ⟨[], h, fun vs hv => by cases vs with | nil => exact trivial | cons _ _ => exact hv.elim⟩
  | r :: rs, k, h => by
    have h' : Post K B F σ E R Q (bnd (DL.look r) (fun d => bnd (DL.looks rs) fun ds => k (d :: ds)) env) := by
      have e : bnd (DL.looks (r :: rs)) k = bnd (DL.look r) (fun d => bnd (DL.looks rs) fun ds => k (d :: ds)) := by
        show bnd (bnd (DL.look r) fun d => bnd (DL.looks rs) fun ds => ret (d :: ds)) k = _
        rw [bnd_assoc]
        congr 1
        funext d
        rw [bnd_assoc]
        rfl
      rw [← e]
      exact h
    obtain ⟨d, h1, hd⟩ := Post.look s h'
    obtain ⟨ds, h2, hds⟩ := Post.looks s h1
    refine ⟨d :: ds, h2, fun vs hv => ?_⟩
    cases vs with
    | nil => exact hv.elim
    | cons v vs => exact ⟨hd v hv.1, hds vs hv.2⟩
end
def CallD (K : PySem.W.Frag) (r : List V → Hp → VK → Prop) (g : List D → Option D) : Prop := ∀ B F H σ env xs as c Q, SR K B F H σ env → DhA K F H xs as → g as = some c →
  (∀ v F' H', Ex F F' → SR K B F' H' σ env → Dr K F' v c → Q v H') → r xs H Q
def CallN (K : PySem.W.Frag) (r : List V → Hp → VK → Prop) (g : List D → Option D) : Prop := ∀ B F H σ env xs as c Q, SR K B F H σ env → DhA K F H xs as → g as = some c →
  (∀ v F' H', Ex F F' → SR K B F' H' σ env → rN K B F' H' σ env v c → Q v H') → r xs H Q
def callM (g : List D → Option D) (fa : M (List Rv)) : M D := bnd fa fun rs => bnd (looks rs) fun ds => lft (g ds)
section
variable {K : PySem.W.Frag} {E : XE} {r : List V → Hp → VK → Prop} {g : List D → Option D} {ta : TA} {fa : M (List Rv)}
theorem tr_call (hg : CallD K r g) (ha : Tr K E (rVs K) ta fa) : Tr K E (rD K) (tCB r ta) (callM g fa) := fun B F H σ env Q s hq =>
  ha.step s hq fun rs env1 vs F1 H1 e1 s1 r1 hq1 => by
    obtain ⟨ds, hq2, hds⟩ := Post.looks s1 hq1
    obtain ⟨c, hc, hq3⟩ := Post.lft hq2
    exact hg B F1 H1 σ env1 vs ds c Q s1 (hds vs r1) hc hq3
theorem tr_callN (hg : CallN K r g) (ha : Tr K E (rVs K) ta fa) : Tr K E (rN K) (tCB r ta) (callM g fa) := fun B F H σ env Q s hq =>
  ha.step s hq fun rs env1 vs F1 H1 e1 s1 r1 hq1 => by
    obtain ⟨ds, hq2, hds⟩ := Post.looks s1 hq1
    obtain ⟨c, hc, hq3⟩ := Post.lft hq2
    exact hg B F1 H1 σ env1 vs ds c Q s1 (hds vs r1) hc hq3
end
section
variable {X : Cx} {K : PySem.W.Frag} {E : XE} {r : List V → Hp → VK → Prop} {g : List D → Option D} {e : Expr} {es : List Expr} {ta : TA} {fa : M (List Rv)} {x : Str} {id T : String} {p pos : Pos}
theorem j_callB (hc : CallR X (.builtin id) r) (hd : CallD K r g) (hv : bootBuiltins x = some (.builtin id)) (hm : X.mg x = none) (hg : Gl X x) (ha : JA X K E (e :: es) ta fa) (hn : x ≠ "__name__" := by decide) (hdb : (x == ("__debug__" : Str)) = false := by decide)
    (he : starEach (e :: es) X.env = (false, eval e X.env) :: starEach es X.env := by rfl) (hpl : (backTo pos (starEach es X.env)).any (·.1) = false := by rfl) : JE X K E (.Call (.Name x p) (e :: es) [] pos) (tCB r ta) (callM g fa) :=
  ⟨ha.hK, pe_callB hc hg hm hv ha.pa hn hdb he hpl, tr_call hd ha.tr⟩
theorem j_callT (hc : CallR X (.type T) r) (hd : CallD K r g) (hv : bootBuiltins x = some (.type T)) (hm : X.mg x = none) (hg : Gl X x) (ha : JA X K E (e :: es) ta fa) (hn : x ≠ "__name__" := by decide) (hdb : (x == ("__debug__" : Str)) = false := by decide)
    (he : starEach (e :: es) X.env = (false, eval e X.env) :: starEach es X.env := by rfl) (hpl : (backTo pos (starEach es X.env)).any (·.1) = false := by rfl) : JE X K E (.Call (.Name x p) (e :: es) [] pos) (tCB r ta) (callM g fa) :=
  ⟨ha.hK, pe_callTy hc hg hm hv ha.pa hn hdb he hpl, tr_call hd ha.tr⟩
theorem j_callBN (hc : CallR X (.builtin id) r) (hd : CallN K r g) (hv : bootBuiltins x = some (.builtin id)) (hm : X.mg x = none) (hg : Gl X x) (ha : JA X K E (e :: es) ta fa) (hn : x ≠ "__name__" := by decide) (hdb : (x == ("__debug__" : Str)) = false := by decide)
    (he : starEach (e :: es) X.env = (false, eval e X.env) :: starEach es X.env := by rfl) (hpl : (backTo pos (starEach es X.env)).any (·.1) = false := by rfl) : JN X K E (.Call (.Name x p) (e :: es) [] pos) (tCB r ta) (callM g fa) :=
  ⟨ha.hK, pe_callB hc hg hm hv ha.pa hn hdb he hpl, tr_callN hd ha.tr⟩
theorem j_callTN (hc : CallR X (.type T) r) (hd : CallN K r g) (hv : bootBuiltins x = some (.type T)) (hm : X.mg x = none) (hg : Gl X x) (ha : JA X K E (e :: es) ta fa) (hn : x ≠ "__name__" := by decide) (hdb : (x == ("__debug__" : Str)) = false := by decide)
    (he : starEach (e :: es) X.env = (false, eval e X.env) :: starEach es X.env := by rfl) (hpl : (backTo pos (starEach es X.env)).any (·.1) = false := by rfl) : JN X K E (.Call (.Name x p) (e :: es) [] pos) (tCB r ta) (callM g fa) :=
  ⟨ha.hK, pe_callTy hc hg hm hv ha.pa hn hdb he hpl, tr_callN hd ha.tr⟩
/-- a built-in class as a value -/
theorem j_bty {pos : Pos} (hv : bootBuiltins x = some (.type T)) (hm : X.mg x = none) (hg : Gl X x) (hK : X.K = K := by rfl) (hn : x ≠ "__name__" := by decide) (hd : (x == ("__debug__" : Str)) = false := by decide) : JE X K E (.Name x pos) (tC (.ty T)) (ret (.cls (.ty T))) :=
  ⟨hK, pe_bltn hg hm hv rfl hn hd, tr_cst fun _ => .cls _⟩
/-- a class, a def of the module as a value -/
theorem j_gref {C : Addr} {pos : Pos} (hm : X.mg x = some (.ref C)) (hg : Gl X x) (hK : X.K = K := by rfl) (hd : (x == ("__debug__" : Str)) = false := by decide) : JE X K E (.Name x pos) (tC (.ref C)) (ret (.cls (.ref C))) :=
  ⟨hK, pe_glob hg hm rfl hd, tr_cst fun _ => .cls _⟩
end

/-! ### len, isinstance, all, any, max, min, int -/
def lenG : List D → Option D
  | [.str x] => if x.length ≤ sizeLine then some (.int x.length) else none
  | [.lst ds] => some (.int ds.length)
  | [.tup ds] => some (.int ds.length)
  | _ => none
def tyn : D → Option String
  | .non => some "NoneType"
  | .bl _ => some "bool"
  | .int _ => some "int"
  | .str _ => some "str"
  | .lst _ => some "list"
  | .tup _ => some "tuple"
  | .dct _ => some "dict"
  | _ => none
def tyIs (a T : String) : Bool := a == T || (a == "bool" && T == "int")
def tys : List String := ["NoneType", "bool", "int", "str", "list", "tuple", "dict"]
def isiG : List D → Option D
  | [d, .cls (.ty T)] => if tys.contains T then (tyn d).map fun a => .bl (tyIs a T) else none
  | _ => none
def boolsOf : List D → Option (List Bool)
  | [] => some []
  | .bl b :: ds => (boolsOf ds).map (b :: ·)
  | _ :: _ => none
def allG : List D → Option D
  | [.lst ds] => (boolsOf ds).map fun bs => .bl (bs.all id)
  | _ => none
def anyG : List D → Option D
  | [.lst ds] => (boolsOf ds).map fun bs => .bl (bs.any id)
  | _ => none
def max2G : List D → Option D
  | [.int i, .int j] => some (.int (if j > i then j else i))
  | _ => none
def min2G : List D → Option D
  | [.int i, .int j] => some (.int (if j < i then j else i))
  | _ => none
def intG1 : List D → Option D
  | [.int i] => some (.int i)
  | [.bl k] => some (.int (if k then 1 else 0))
  | _ => none
section
variable {K : PySem.W.Frag} {F H : Hp}
theorem DhA.one {xs : List V} {d : D} (h : DhA K F H xs [d]) : ∃ v, xs = [v] ∧ Dh K F H v d := by
  match xs, h with
  | [v], h => exact ⟨v, rfl, h.1⟩
  | [], h => exact h.elim
  | _ :: _ :: _, h => exact h.2.elim
theorem DhA.two {xs : List V} {d e : D} (h : DhA K F H xs [d, e]) : ∃ v w, xs = [v, w] ∧ Dh K F H v d ∧ Dh K F H w e := by
  match xs, h with
  | [v, w], h => exact ⟨v, w, rfl, h.1, h.2.1⟩
  | [], h => exact h.elim
  | [_], h => exact h.2.elim
  | _ :: _ :: _ :: _, h => exact h.2.2.elim
theorem cd_len : CallD K (fun xs H Q => ∃ x n, xs = [x] ∧ LenV K x H n ∧ Q (.int n) H) lenG := by
  intro B F H σ env xs as c Q s hx hg q
  unfold lenG at hg
  split at hg
  · split at hg
    · rename_i hz
      cases hg
      obtain ⟨v, rfl, hv⟩ := hx.one
      refine ⟨v, _, rfl, ?_, q _ F H (Ex.refl F) s (.int _)⟩
      rw [hv.str]
      exact ⟨hz, rfl⟩
    · cases hg
  · cases hg
    obtain ⟨v, rfl, hv⟩ := hx.one
    obtain ⟨a, ys, rfl, h1, h2⟩ := hv.lst s.ex
    exact ⟨_, _, rfl, Or.inl ⟨ys, h1, h2.length.symm⟩, q _ F H (Ex.refl F) s (.int _)⟩
  · cases hg
    obtain ⟨v, rfl, hv⟩ := hx.one
    obtain ⟨a, ys, rfl, h1, h2⟩ := hv.tup s.ex
    exact ⟨_, _, rfl, Or.inr ⟨ys, h1, h2.length.symm⟩, q _ F H (Ex.refl F) s (.int _)⟩
  · cases hg
theorem sql_ty {a : Addr} {xs : List V} (h : SqL K H a xs) : TyX K H (.ref a) (.type "list") := by
  rcases h with (h | ⟨o, h⟩) | ⟨o, its, n, h1, h2, _⟩
  · exact .base (.lst h)
  · exact .base (.frz h)
  · exact .kList h1 h2
theorem sqt_ty {a : Addr} {xs : List V} (h : SqT K H a xs) : TyX K H (.ref a) (.type "tuple") := by
  rcases h with (h | ⟨o, h⟩) | ⟨o, its, n, h1, h2, _⟩
  · exact .base (.tup h)
  · exact .fTuple h
  · exact .kTuple h1 h2
theorem Dh.ty {x : V} {d : D} {a : String} (e : Ex F H) (h : Dh K F H x d) (ht : tyn d = some a) : TyX K H x (.type a) := by
  cases d with
  | non => cases ht; rw [h.non]; exact .base .non
  | bl b => cases ht; rw [h.bl]; exact .base (.bl b)
  | int i => cases ht; rw [h.int]; exact .base (.int i)
  | str y => cases ht; rw [h.str]; exact .base (.str y)
  | lst ds => cases ht; obtain ⟨p, ys, rfl, h1, _⟩ := h.lst e; exact sql_ty h1
  | tup ds => cases ht; obtain ⟨p, ys, rfl, h1, _⟩ := h.tup e; exact sqt_ty h1
  | dct kvs => cases ht; obtain ⟨p, ys, rfl, h1, _⟩ := h.dct e; exact .base (.dK h1)
  | obj C fs => cases ht
  | cls c => cases ht
theorem kit_tab : ∀ a ∈ tys, ∀ T ∈ tys, kitB a T = some (tyIs a T) := by decide +kernel
theorem tyn_mem {d : D} {a : String} (h : tyn d = some a) : a ∈ tys := by
  cases d <;> cases h <;> decide
theorem cd_isi : CallD K (rIsi K) isiG := by
  intro B F H σ env xs as c Q s hx hg q
  unfold isiG at hg
  split at hg
  · rename_i d T
    split at hg
    · rename_i hT
      cases ht : tyn d with
      | none => rw [ht] at hg; cases hg
      | some a =>
        rw [ht] at hg
        cases hg
        obtain ⟨v, w, rfl, hv, hw⟩ := hx.two
        rw [hw.cls]
        exact ⟨v, .ty T, .type a, .type T, _, rfl, .ty T, hv.ty s.ex ht, kit_ty (kit_tab a (tyn_mem ht) T (List.contains_iff_mem.mp hT)), q _ F H (Ex.refl F) s (.bl _)⟩
    · cases hg
  · cases hg
theorem boolsOf_dr : ∀ {xs : List V} {ds : List D} {bs : List Bool}, DrA K F xs ds → boolsOf ds = some bs → xs = bs.map V.bl
  | _, _, bs, .nil, h => by cases h; rfl
  | _, _, bs, .cons (d := d) (ds := ds) h t, hb => by
    unfold boolsOf at hb
    split at hb
    · rename_i he; cases he
    · rename_i b ds' he
      cases he
      cases h
      cases e : boolsOf ds with
      | none => rw [e] at hb; cases hb
      | some bs' =>
        rw [e] at hb
        cases hb
        rw [boolsOf_dr t e]
        rfl
    · cases hb
theorem cd_all : CallD K (rAll K) allG := by
  intro B F H σ env xs as c Q s hx hg q
  unfold allG at hg
  split at hg
  · rename_i ds
    cases e : boolsOf ds with
    | none => rw [e] at hg; cases hg
    | some bs =>
      rw [e] at hg
      cases hg
      obtain ⟨v, rfl, hv⟩ := hx.one
      obtain ⟨a, ys, rfl, h1, h2⟩ := hv.lst s.ex
      rw [boolsOf_dr h2 e] at h1
      exact ⟨a, bs, rfl, h1, q _ F H (Ex.refl F) s (.bl _)⟩
  · cases hg
theorem cd_any : CallD K (rAny K) anyG := by
  intro B F H σ env xs as c Q s hx hg q
  unfold anyG at hg
  split at hg
  · rename_i ds
    cases e : boolsOf ds with
    | none => rw [e] at hg; cases hg
    | some bs =>
      rw [e] at hg
      cases hg
      obtain ⟨v, rfl, hv⟩ := hx.one
      obtain ⟨a, ys, rfl, h1, h2⟩ := hv.lst s.ex
      rw [boolsOf_dr h2 e] at h1
      exact ⟨a, bs, rfl, h1, q _ F H (Ex.refl F) s (.bl _)⟩
  · cases hg
theorem cd_max2 : CallD K (fun xs H Q => ∃ i j, xs = [.int i, .int j] ∧ Q (.int (if j > i then j else i)) H) max2G := by
  intro B F H σ env xs as c Q s hx hg q
  unfold max2G at hg
  split at hg
  · cases hg
    obtain ⟨v, w, rfl, hv, hw⟩ := hx.two
    rw [hv.int, hw.int]
    exact ⟨_, _, rfl, q _ F H (Ex.refl F) s (.int _)⟩
  · cases hg
theorem cd_min2 : CallD K (fun xs H Q => ∃ i j, xs = [.int i, .int j] ∧ Q (.int (if j < i then j else i)) H) min2G := by
  intro B F H σ env xs as c Q s hx hg q
  unfold min2G at hg
  split at hg
  · cases hg
    obtain ⟨v, w, rfl, hv, hw⟩ := hx.two
    rw [hv.int, hw.int]
    exact ⟨_, _, rfl, q _ F H (Ex.refl F) s (.int _)⟩
  · cases hg
theorem cd_int : CallD K (fun xs H Q => (∃ i, xs = [.int i] ∧ Q (.int i) H) ∨ ∃ k, xs = [.bl k] ∧ Q (.int (if k then 1 else 0)) H) intG1 := by
  intro B F H σ env xs as c Q s hx hg q
  unfold intG1 at hg
  split at hg
  · cases hg
    obtain ⟨v, rfl, hv⟩ := hx.one
    rw [hv.int]
    exact Or.inl ⟨_, rfl, q _ F H (Ex.refl F) s (.int _)⟩
  · cases hg
    obtain ⟨v, rfl, hv⟩ := hx.one
    rw [hv.bl]
    exact Or.inr ⟨_, rfl, q _ F H (Ex.refl F) s (.int _)⟩
  · cases hg
end

/-! ### new things -/
section
variable {K : PySem.W.Frag} {B : Bs} {F H : Hp} {σ : L2.St} {env : Fm}
theorem SR.newN (s : SR K B F H σ env) {p : Addr} {o : HO} {d : D} (hp : H p = none) (hd : Do K F o d) : SR K B F (upd H p o) σ env ∧ rN K B F (upd H p o) σ env (.ref p) d := by
  refine ⟨s.growH hp, p, o, rfl, s.ex.none hp, upd_same, hd, s.new_b hp, fun z => ?_⟩
  obtain ⟨u, hu⟩ := (s.owned_b z).2.1
  rw [hp] at hu
  cases hu
end
def listG : List D → Option D
  | [.lst ds] => some (.lst ds)
  | [.tup ds] => some (.lst ds)
  | _ => none
def tupleG : List D → Option D
  | [.lst ds] => some (.tup ds)
  | [.tup ds] => some (.tup ds)
  | _ => none
section
variable {K : PySem.W.Frag} {F H : Hp}
theorem cn_list : CallN K (fun xs H Q => ∃ p ys, xs = [.ref p] ∧ (SqL K H p ys ∨ SqT K H p ys) ∧ ∀ l, H l = none → Q (.ref l) (upd H l (.lst ys))) listG := by
  intro B F H σ env xs as c Q s hx hg q
  unfold listG at hg
  split at hg
  · cases hg
    obtain ⟨v, rfl, hv⟩ := hx.one
    obtain ⟨a, ys, rfl, h1, h2⟩ := hv.lst s.ex
    exact ⟨a, ys, rfl, Or.inl h1, fun l hl => q _ F _ (Ex.refl F) (s.newN hl (Do.lst h2)).1 (s.newN hl (Do.lst h2)).2⟩
  · cases hg
    obtain ⟨v, rfl, hv⟩ := hx.one
    obtain ⟨a, ys, rfl, h1, h2⟩ := hv.tup s.ex
    exact ⟨a, ys, rfl, Or.inr h1, fun l hl => q _ F _ (Ex.refl F) (s.newN hl (Do.lst h2)).1 (s.newN hl (Do.lst h2)).2⟩
  · cases hg
theorem SR.newT {B : Bs} {σ : L2.St} {env : Fm} (s : SR K B F H σ env) {p : Addr} {xs : List V} {ds : List D} (hp : H p = none) (hd : DrA K F xs ds) :
    Ex F (upd F p (.tup xs)) ∧ SR K B (upd F p (.tup xs)) (upd H p (.tup xs)) σ env ∧ Dr K (upd F p (.tup xs)) (.ref p) (.tup ds) :=
  ⟨Ex.new (s.ex.none hp), s.grow hp, .tup (SqT.of upd_same) (hd.mono (Ex.new (s.ex.none hp)))⟩
theorem cd_tuple : CallD K (fun xs H Q => ∃ p ys, xs = [.ref p] ∧ ((SqL K H p ys ∧ ∀ l, H l = none → Q (.ref l) (upd H l (.tup ys))) ∨ (SqT K H p ys ∧ Q (.ref p) H))) tupleG := by
  intro B F H σ env xs as c Q s hx hg q
  unfold tupleG at hg
  split at hg
  · cases hg
    obtain ⟨v, rfl, hv⟩ := hx.one
    obtain ⟨a, ys, rfl, h1, h2⟩ := hv.lst s.ex
    refine ⟨a, ys, rfl, Or.inl ⟨h1, fun l hl => ?_⟩⟩
    obtain ⟨e1, s1, d1⟩ := s.newT hl h2
    exact q _ _ _ e1 s1 d1
  · cases hg
    obtain ⟨v, rfl, hv⟩ := hx.one
    rcases hv with hv | ⟨_, _, _, _, hv⟩
    · cases hv with
      | tup h1 h2 => exact ⟨_, _, rfl, Or.inr ⟨s.ex.st h1, q _ F H (Ex.refl F) s (.tup h1 h2)⟩⟩
    · cases hv
  · cases hg
end
/-- data that stand still, of what is handed -/
def still (r : Rv) : M D := fun env => match r with
  | .fz d => .ok d env
  | .sl i => match env[i]? with
    | some (.fz d) => .ok d env
    | _ => .no
def stills : List Rv → M (List D)
  | [] => ret []
  | r :: rs => bnd (still r) fun d => bnd (stills rs) fun ds => ret (d :: ds)
section
variable {K : PySem.W.Frag} {B : Bs} {F H : Hp} {σ : L2.St} {env : Fm} {E : XE}
theorem Post.still {β α : Type} {R : RL β α} {Q : β → Hp → Prop} {r : Rv} {k : D → M α} (s : SR K B F H σ env) (h : Post K B F σ E R Q (bnd (still r) k env)) : ∃ d, Post K B F σ E R Q (k d env) ∧ ∀ v, rV K B F H σ env v r → Dr K F v d := by
  unfold bnd DL.still at h
  cases r with
  | fz d => exact ⟨d, h, fun v hv => hv⟩
  | sl i =>
    cases e : env[i]? with
    | none => simp only [e] at h; exact h.elim
    | some x =>
      cases x with
      | un => simp only [e] at h; exact h.elim
      | ow t d => simp only [e] at h; exact h.elim
      | fz d =>
        simp only [e] at h
        refine ⟨d, h, fun v hv => ?_⟩
        obtain ⟨v', h1, h2⟩ := s.fz i d e
        have hv' : σ[i]? = some (some v) := hv
        rw [h1] at hv'
        cases hv'
        exact h2
theorem Post.stills {β α : Type} {R : RL β α} {Q : β → Hp → Prop} (s : SR K B F H σ env) : ∀ {rs : List Rv} {k : List D → M α}, Post K B F σ E R Q (bnd (stills rs) k env) → ∃ ds, Post K B F σ E R Q (k ds env) ∧ ∀ vs, rVs K B F H σ env vs rs → DrA K F vs ds
  | [], k, h => ⟨[], h, fun vs hv => by cases vs with | nil => exact .nil | cons _ _ => exact hv.elim⟩
  | r :: rs, k, h => by
    have h' : Post K B F σ E R Q (bnd (DL.still r) (fun d => bnd (DL.stills rs) fun ds => k (d :: ds)) env) := by
      have e : bnd (DL.stills (r :: rs)) k = bnd (DL.still r) (fun d => bnd (DL.stills rs) fun ds => k (d :: ds)) := by
        show bnd (bnd (DL.still r) fun d => bnd (DL.stills rs) fun ds => ret (d :: ds)) k = _
        rw [bnd_assoc]
        congr 1
        funext d
        rw [bnd_assoc]
        rfl
      rw [← e]
      exact h
    obtain ⟨d, h1, hd⟩ := Post.still s h'
    obtain ⟨ds, h2, hds⟩ := Post.stills s h1
    refine ⟨d :: ds, h2, fun vs hv => ?_⟩
    cases vs with
    | nil => exact hv.elim
    | cons v vs => exact .cons (hd v hv.1) (hds vs hv.2)
end
/-- a written list, a written tuple -/
def few (n : Nat) : Bool := decide (n ≤ sizeLine)
def lstM (fa : M (List Rv)) : M D := bnd fa fun rs => bnd (stills rs) fun ds => lft (if few ds.length then some (.lst ds) else none)
def tupM (fa : M (List Rv)) : M D := bnd fa fun rs => bnd (stills rs) fun ds => lft (if few ds.length then some (.tup ds) else none)
section
variable {X : Cx} {K : PySem.W.Frag} {E : XE} {es : List Expr} {ta : TA} {fa : M (List Rv)} {pos : Pos}
theorem j_lst (h : JA X K E es ta fa) : JN X K E (.List es pos) (tLst ta) (lstM fa) := by
  refine ⟨h.hK, pe_lst h.pa, fun B F H σ env Q s hq => ?_⟩
  refine h.tr.step s hq fun rs env1 vs F1 H1 e1 s1 r1 hq1 => ?_
  obtain ⟨ds, hq2, hds⟩ := Post.stills s1 hq1
  obtain ⟨c, hc, hq3⟩ := Post.lft hq2
  split at hc
  · rename_i hz
    cases hc
    have hA := hds vs r1
    refine ⟨by rw [hA.length]; exact of_decide_eq_true hz, fun p hp => ?_⟩
    obtain ⟨s2, n2⟩ := s1.newN hp (Do.lst hA)
    exact hq3 _ F1 _ (Ex.refl F1) s2 n2
  · cases hc
theorem j_tup {x1} (h : JA X K E es ta fa) : JE X K E (.Tuple es x1 pos) (tTup ta) (tupM fa) := by
  refine ⟨h.hK, pe_tup h.pa, fun B F H σ env Q s hq => ?_⟩
  refine h.tr.step s hq fun rs env1 vs F1 H1 e1 s1 r1 hq1 => ?_
  obtain ⟨ds, hq2, hds⟩ := Post.stills s1 hq1
  obtain ⟨c, hc, hq3⟩ := Post.lft hq2
  split at hc
  · rename_i hz
    cases hc
    have hA := hds vs r1
    refine ⟨by rw [hA.length]; exact of_decide_eq_true hz, fun p hp => ?_⟩
    obtain ⟨e2, s2, d2⟩ := s1.newT hp hA
    exact hq3 _ _ _ e2 s2 d2
  · cases hc
end

/-! ### subscripts, slices -/
def ixG : D → D → Option D := fun a b => match a, b with
  | .lst ds, .int i => atI ds i
  | .tup ds, .int i => atI ds i
  | .str z, .int i => if z.length ≤ sizeLine then (atI z.cps.toList i).map fun c => .str ⟨#[c]⟩ else none
  | _, _ => none
section
variable {K : PySem.W.Frag} {F H : Hp}
theorem DrA.at {xs : List V} {ds : List D} {i : Int} {d : D} (h : DrA K F xs ds) (e : atI ds i = some d) : ∃ v, atI xs i = some v ∧ Dr K F v d := by
  unfold atI at e ⊢
  rw [h.length]
  cases q : ixN ds.length i with
  | none => rw [q] at e; cases e
  | some j =>
    rw [q] at e
    exact h.get e
theorem od_ix : OpD K (rIx K) ixG := by
  intro B F H σ env x y a b c Q s hx hy hg q
  unfold ixG at hg
  split at hg
  · obtain ⟨p, xs, rfl, h1, h2⟩ := hx.lst s.ex
    obtain ⟨v, e, hv⟩ := h2.at hg
    exact Or.inl ⟨p, xs, _, v, rfl, hy.int, h1, e, q _ F H (Ex.refl F) s hv⟩
  · obtain ⟨p, xs, rfl, h1, h2⟩ := hx.tup s.ex
    obtain ⟨v, e, hv⟩ := h2.at hg
    exact Or.inr (Or.inl ⟨p, xs, _, v, rfl, hy.int, h1, e, q _ F H (Ex.refl F) s hv⟩)
  · rename_i z i
    split at hg
    · rename_i hz
      cases e : atI z.cps.toList i with
      | none => rw [e] at hg; cases hg
      | some k =>
        rw [e] at hg
        cases hg
        exact Or.inr (Or.inr ⟨z, i, k, hx.str, hy.int, hz, e, q _ F H (Ex.refl F) s (.str _)⟩)
    · cases hg
  · cases hg
end
theorem j_ix {X : Cx} {K : PySem.W.Frag} {E : XE} {a b : Expr} {ta tb : TE} {fa fb : M Rv} {pos : Pos} (ha : JR X K E a ta fa) (hb : JR X K E b tb fb) (hs : PlainIx b := by exact fun _ _ => rfl) : JE X K E (.Subscript a b pos) (tOp (rIx K) ta tb) (mop ixG fa fb) :=
  ⟨ha.hK, ha.hK ▸ pe_ix ix_seq ha.pe hb.pe hs, Tr.op2 od_ix ha.tr hb.tr⟩
theorem jo_none {X : Cx} {K : PySem.W.Frag} {E : XE} (hK : X.K = K := by rfl) : JO X K E none tNoPart (ret none) := ⟨hK, po_none, fun B F H σ env Q s hq => hq none F H (Ex.refl F) s rfl⟩
def someM (f : M Rv) : M (Option Int) := bnd f fun a => bnd (look a) fun x => match x with
  | .int i => ret (some i)
  | _ => nope
theorem jo_some {X : Cx} {K : PySem.W.Frag} {E : XE} {e : Expr} {te : TE} {f : M Rv} (h : JR X K E e te f) : JO X K E (some e) (tPart te) (someM f) := by
  refine ⟨h.hK, po_some h.pe, fun B F H σ env Q s hq => ?_⟩
  refine h.tr.step s hq fun a env1 v F1 H1 e1 s1 r1 hq1 => ?_
  obtain ⟨x, hq2, hx⟩ := Post.look s1 hq1
  cases x <;> first | exact hq2.elim | skip
  rename_i i
  exact ⟨i, (hx v r1).int, hq2 _ F1 H1 (Ex.refl F1) s1 rfl⟩
def cutD {α : Type} (xs : List α) (lo hi : Option Int) : List α := (xs.drop (HT.sIx xs.length 0 lo)).take (HT.sIx xs.length xs.length hi - HT.sIx xs.length 0 lo)
def slG (a : D) (lo hi : Option Int) : Option D := match a with
  | .lst ds => some (.lst (cutD ds lo hi))
  | .tup ds => some (.tup (cutD ds lo hi))
  | .str z => if z.length ≤ sizeLine then some (.str (Txt.slice z lo hi)) else none
  | _ => none
def slM (fa : M Rv) (fl fh : M (Option Int)) : M D := bnd fa fun a => bnd fl fun l => bnd fh fun h => bnd (look a) fun x => lft (slG x l h)
abbrev rSlAll (K : PySem.W.Frag) : V → Option Int → Option Int → Hp → VK → Prop := fun x lo hi H Q => (rSlL K x lo hi H Q ∨ rSlA K x lo hi H Q) ∨ C8.rSlX x lo hi H Q
theorem DrA.cut {K : PySem.W.Frag} {F : Hp} {xs : List V} {ds : List D} (h : DrA K F xs ds) (lo hi : Option Int) : DrA K F (cutV xs lo hi) (cutD ds lo hi) := by
  unfold cutV cutD
  rw [h.length]
  exact (h.drop _).take _
theorem cutV_whole {xs : List V} {lo hi : Option Int} (h : HT.sIx xs.length 0 lo = 0 ∧ HT.sIx xs.length xs.length hi = xs.length) : cutV xs lo hi = xs := by
  unfold cutV
  rw [h.1, h.2, List.drop_zero, Nat.sub_zero, List.take_length]
theorem j_sl {X : Cx} {K : PySem.W.Frag} {E : XE} {e : Expr} {lo hi : Option Expr} {te : TE} {tl th : TO} {fa : M Rv} {fl fh : M (Option Int)} {pos p2 : Pos} (ha : JR X K E e te fa) (hl : JO X K E lo tl fl) (hh : JO X K E hi th fh) :
    JE X K E (.Subscript e (.Slice lo hi none p2) pos) (tSl (rSlAll K) te tl th) (slM fa fl fh) := by
  refine ⟨ha.hK, ha.hK ▸ pe_slice ((sl_list.or sl_tupA).or C8.sl_txt) ha.pe hl.po hh.po, fun B F H σ env Q s hq => ?_⟩
  refine ha.tr.step s hq fun a env1 v F1 H1 e1 s1 r1 hq1 => ?_
  refine hl.tr.step s1 hq1 fun l env2 l' F2 H2 e2 s2 r2 hq2 => ?_
  refine hh.tr.step s2 hq2 fun h env3 h' F3 H3 e3 s3 r3 hq3 => ?_
  cases r2
  cases r3
  obtain ⟨x, hq4, hx⟩ := Post.look s3 hq3
  obtain ⟨c, hc, hq5⟩ := Post.lft hq4
  have hv := hx v (rV_mono (e2.trans e3) r1)
  unfold slG at hc
  split at hc
  · cases hc
    obtain ⟨p, xs, rfl, h1, h2⟩ := hv.lst s3.ex
    refine Or.inl (Or.inl ⟨p, xs, rfl, h1, fun q hn => ?_⟩)
    obtain ⟨s4, n4⟩ := s3.newN hn (Do.lst (h2.cut l h))
    obtain ⟨F5, e5, d5, s5⟩ := s4.frzN n4
    exact hq5 _ F5 _ e5 s5 d5
  · cases hc
    rcases hv with hv | ⟨_, _, _, _, hv⟩
    · cases hv with
      | tup h1 h2 =>
        refine Or.inl (Or.inr ⟨_, _, rfl, s3.ex.st h1, fun hw => ?_, fun hw q hn => ?_⟩)
        · have h3 := h2.cut l h
          rw [cutV_whole hw] at h3
          exact hq5 _ F3 H3 (Ex.refl F3) s3 (.tup h1 h3)
        · obtain ⟨e4, s4, d4⟩ := s3.newT hn (h2.cut l h)
          exact hq5 _ _ _ e4 s4 d4
    · cases hv
  · split at hc
    · rename_i hz
      cases hc
      exact Or.inr ⟨_, hv.str, hz, hq5 _ F3 H3 (Ex.refl F3) s3 (.str _)⟩
    · cases hc
  · cases hc
end DL

/-! What is walked, comprehensions, statements, defs. -/
namespace DL
open PySem L2

/-! ### what is walked -/
def rI (K : PySem.W.Frag) : RL It (List D) := fun _ F _ _ _ J ds => ∀ F1 H1, Ex F F1 → Ex F1 H1 → (∀ i, i < ds.length → J.go i H1) ∧ (∀ i, ds.length ≤ i → J.stop i H1) ∧
  ∀ i x H2 d, ds[i]? = some d → J.yld i H1 x H2 → (Dr K F1 x d ∧ H2 = H1) ∨ ∃ p o, H1 p = none ∧ H2 = upd H1 p o ∧ Dr K (upd F1 p o) x d
structure JI (X : Cx) (K : PySem.W.Frag) (E : XE) (tg iter : Expr) (wi : TI) (f : M (List D)) : Prop where
  hK : X.K = K
  pi : PI X tg iter wi
  tr : Tr K E (rI K) wi f
def asL : D → M (List D)
  | .lst ds => ret ds
  | _ => nope
def asT : D → M (List D)
  | .tup ds => ret ds
  | _ => nope
def chars (z : Str) : List D := z.cps.toList.map fun c => .str ⟨#[c]⟩
def asS : D → M (List D)
  | .str z => ret (chars z)
  | _ => nope
def rngD (lo : Int) (n : Nat) : List D := (List.range n).map fun i => .int (lo + (i : Nat))
section
variable {K : PySem.W.Frag} {B : Bs} {F H : Hp} {σ : L2.St} {env : Fm} {E : XE}
end
section
variable {X : Cx} {K : PySem.W.Frag} {E : XE} {tg e : Expr} {te : TE} {f : M D}
theorem ji_list (h : JE X K E e te f) : JI X K E tg e (iList K te) (bnd f asL) := by
  refine ⟨h.hK, h.hK ▸ pi_list h.pe, fun B F H σ env Q s hq => ?_⟩
  refine h.tr.step s hq fun d env1 v F1 H1 e1 s1 r1 hq1 => ?_
  cases d <;> first | exact hq1.elim | skip
  cases r1 with
  | lst h1 h2 =>
    refine ⟨_, rfl, ⟨_, .inl (s1.ex.rd h1)⟩, hq1 _ F1 H1 (Ex.refl F1) s1 ?_⟩
    intro F2 H2 e2 e3
    have hqq : SqL K _ _ _ := .inl ((e2.trans e3).rd h1)
    refine ⟨fun i hi => ?_, fun i hi => ⟨_, hqq, by rw [h2.length]; exact hi⟩, fun i x H2 d hd hy => Or.inl ?_⟩
    · obtain ⟨v, e, _⟩ := h2.get (List.getElem?_eq_getElem hi)
      exact ⟨_, v, hqq, e⟩
    · obtain ⟨v, e, hv⟩ := h2.get hd
      have ex := hy.2 _ hqq
      rw [e] at ex
      cases ex
      exact ⟨hv.mono e2, hy.1⟩
theorem ji_tup (h : JE X K E e te f) : JI X K E tg e (iTup K te) (bnd f asT) := by
  refine ⟨h.hK, h.hK ▸ pi_tup h.pe, fun B F H σ env Q s hq => ?_⟩
  refine h.tr.step s hq fun d env1 v F1 H1 e1 s1 r1 hq1 => ?_
  cases d <;> first | exact hq1.elim | skip
  cases r1 with
  | tup h1 h2 =>
    refine ⟨_, rfl, ⟨_, s1.ex.st h1⟩, hq1 _ F1 H1 (Ex.refl F1) s1 ?_⟩
    intro F2 H2 e2 e3
    have hqq := (e2.trans e3).st h1
    refine ⟨fun i hi => ?_, fun i hi => ⟨_, hqq, by rw [h2.length]; exact hi⟩, fun i x H2 d hd hy => Or.inl ?_⟩
    · obtain ⟨v, e, _⟩ := h2.get (List.getElem?_eq_getElem hi)
      exact ⟨_, v, hqq, e⟩
    · obtain ⟨v, e, hv⟩ := h2.get hd
      have ex := hy.2 _ hqq
      rw [e] at ex
      cases ex
      exact ⟨hv.mono e2, hy.1⟩
theorem ji_str (h : JE X K E e te f) : JI X K E tg e (iStr te) (bnd f asS) := by
  refine ⟨h.hK, pi_str h.pe, fun B F H σ env Q s hq => ?_⟩
  refine h.tr.step s hq fun d env1 v F1 H1 e1 s1 r1 hq1 => ?_
  cases d <;> first | exact hq1.elim | skip
  rename_i z
  cases r1
  refine ⟨z, rfl, hq1 _ F1 H1 (Ex.refl F1) s1 ?_⟩
  intro F2 H2 e2 e3
  have hl : (chars z).length = z.cps.size := by unfold chars; rw [List.length_map, Array.length_toList]
  refine ⟨fun i hi => ?_, fun i hi => ?_, fun i x H2 d hd hy => Or.inl ?_⟩
  · rw [hl] at hi; exact hi
  · rw [hl] at hi; exact hi
  · obtain ⟨e4, c, hc, rfl⟩ := hy
    refine ⟨?_, e4⟩
    unfold chars at hd
    rw [List.getElem?_map, Array.getElem?_toList, hc] at hd
    cases hd
    exact .str _
def rng1M (fa : M (List Rv)) : M (List D) := bnd fa fun rs => bnd (looks rs) fun ds => match ds with
  | [.int j] => if -(2 ^ 62) ≤ j ∧ j < 2 ^ 62 then ret (rngD 0 j.toNat) else nope
  | _ => nope
theorem rI_rng {K : PySem.W.Frag} {B : Bs} {F H : Hp} {σ : L2.St} {env : Fm} (lo : Int) (n : Nat) : rI K B F H σ env (Itr lo n) (rngD lo n) := by
  intro F2 H2 e2 e3
  have hl : (rngD lo n).length = n := by unfold rngD; rw [List.length_map, List.length_range]
  refine ⟨fun i hi => ?_, fun i hi => ?_, fun i x H2 d hd hy => Or.inl ?_⟩
  · rw [hl] at hi; exact hi
  · rw [hl] at hi; exact hi
  · obtain ⟨e4, rfl⟩ := hy
    refine ⟨?_, e4⟩
    unfold rngD at hd
    rw [List.getElem?_map] at hd
    cases q : (List.range n)[i]? with
    | none => rw [q] at hd; cases hd
    | some k =>
      rw [q] at hd
      cases hd
      have := List.getElem?_eq_some_iff.mp q
      obtain ⟨h1, h2⟩ := this
      rw [List.getElem_range] at h2
      subst h2
      exact .int _
theorem ji_rng1 {a : Expr} {ta : TA} {fa : M (List Rv)} {p pos : Pos} (hm : X.mg "range" = none) (hg : Gl X "range") (ha : JA X K E [a] ta fa) (hs : starEach [a] X.env = [(false, eval a X.env)] := by rfl) :
    JI X K E tg (.Call (.Name "range" p) [a] [] pos) (iRng1 ta) (rng1M fa) := by
  refine ⟨ha.hK, pi_range1 hg hm ha.pa hs, fun B F H σ env Q s hq => ?_⟩
  refine ha.tr.step s hq fun rs env1 vs F1 H1 e1 s1 r1 hq1 => ?_
  obtain ⟨ds, hq2, hds⟩ := Post.looks s1 hq1
  split at hq2
  · rename_i j
    split at hq2
    · rename_i hj
      obtain ⟨v, rfl, hv⟩ := (hds vs r1).one
      rw [hv.int]
      exact ⟨j, rfl, hj.1, hj.2, hq2 _ F1 H1 (Ex.refl F1) s1 (rI_rng 0 j.toNat)⟩
    · exact hq2.elim
  · exact hq2.elim
def rng2M (fa : M (List Rv)) : M (List D) := bnd fa fun rs => bnd (looks rs) fun ds => match ds with
  | [.int i, .int j] => if -(2 ^ 62) ≤ i ∧ i < 2 ^ 62 ∧ -(2 ^ 62) ≤ j ∧ j < 2 ^ 62 then ret (rngD i (j - i).toNat) else nope
  | _ => nope
theorem ji_rng2 {a b : Expr} {ta : TA} {fa : M (List Rv)} {p pos : Pos} (hm : X.mg "range" = none) (hg : Gl X "range") (ha : JA X K E [a, b] ta fa) (hs : starEach [a, b] X.env = [(false, eval a X.env), (false, eval b X.env)] := by rfl) (hs2 : starEach [b] X.env = [(false, eval b X.env)] := by rfl) :
    JI X K E tg (.Call (.Name "range" p) [a, b] [] pos) (iRng2 ta) (rng2M fa) := by
  refine ⟨ha.hK, pi_range2 hg hm ha.pa hs hs2, fun B F H σ env Q s hq => ?_⟩
  refine ha.tr.step s hq fun rs env1 vs F1 H1 e1 s1 r1 hq1 => ?_
  obtain ⟨ds, hq2, hds⟩ := Post.looks s1 hq1
  split at hq2
  · rename_i i j
    split at hq2
    · rename_i hj
      obtain ⟨v, w, rfl, hv, hw⟩ := (hds vs r1).two
      rw [hv.int, hw.int]
      exact ⟨i, j, rfl, hj, hq2 _ F1 H1 (Ex.refl F1) s1 (rI_rng i (j - i).toNat)⟩
    · exact hq2.elim
  · exact hq2.elim
def enumD (ds : List D) : List D := (List.range ds.length).zipWith (fun i d => .tup [.int (i : Nat), d]) ds
def enumM (fa : M (List Rv)) : M (List D) := bnd fa fun rs => bnd (stills rs) fun ds => match ds with
  | [.lst xs] => ret (enumD xs)
  | _ => nope
theorem enumD_get {ds : List D} {i : Nat} {d : D} (h : (enumD ds)[i]? = some d) : ∃ e, ds[i]? = some e ∧ d = .tup [.int (i : Nat), e] := by
  unfold enumD at h
  rw [List.getElem?_zipWith] at h
  cases q1 : (List.range ds.length)[i]? with
  | none => rw [q1] at h; cases h
  | some k =>
    cases q2 : ds[i]? with
    | none => rw [q1, q2] at h; cases h
    | some e =>
      rw [q1, q2] at h
      cases h
      obtain ⟨_, h2⟩ := List.getElem?_eq_some_iff.mp q1
      rw [List.getElem_range] at h2
      subst h2
      exact ⟨e, rfl, rfl⟩
theorem enumD_length (ds : List D) : (enumD ds).length = ds.length := by
  unfold enumD
  rw [List.length_zipWith, List.length_range, Nat.min_self]
theorem ji_enum {elts : List Expr} {kk : Nat} {tpos : Pos} {a : Expr} {ta : TA} {fa : M (List Rv)} {p pos : Pos} (hm : X.mg "enumerate" = none) (hg : Gl X "enumerate") (ha : JA X K E [a] ta fa) (hs : starEach [a] X.env = [(false, eval a X.env)] := by rfl) :
    JI X K E (.Tuple elts kk tpos) (.Call (.Name "enumerate" p) [a] [] pos) (iEnum K ta) (enumM fa) := by
  refine ⟨ha.hK, ha.hK ▸ pi_enum hg hm ha.pa hs, fun B F H σ env Q s hq => ?_⟩
  refine ha.tr.step s hq fun rs env1 vs F1 H1 e1 s1 r1 hq1 => ?_
  obtain ⟨ds, hq2, hds⟩ := Post.stills s1 hq1
  split at hq2
  · rename_i xs
    have hA := hds vs r1
    cases hA with
    | cons h t =>
      cases t
      cases h with
      | lst h1 h2 =>
        refine ⟨_, _, rfl, .inl (s1.ex.rd h1), hq2 _ F1 H1 (Ex.refl F1) s1 ?_⟩
        intro F2 H2 e2 e3
        have hqq : SqL K _ _ _ := .inl ((e2.trans e3).rd h1)
        refine ⟨fun i hi => ?_, fun i hi => ⟨_, hqq, by rw [h2.length]; rw [enumD_length] at hi; exact hi⟩, fun i x H3 d hd hy => Or.inr ?_⟩
        · rw [enumD_length] at hi
          obtain ⟨v, e, _⟩ := h2.get (List.getElem?_eq_getElem hi)
          exact ⟨_, v, hqq, e⟩
        · obtain ⟨T, x', rfl, hT, rfl, hx⟩ := hy
          obtain ⟨e, he, rfl⟩ := enumD_get hd
          obtain ⟨v, ev, hv⟩ := h2.get he
          have ex := hx _ hqq
          rw [ev] at ex
          cases ex
          have hF : F2 T = none := e3.none hT
          refine ⟨T, _, hT, rfl, .tup (SqT.of upd_same) (.cons (.int _) (.cons ((hv.mono e2).mono (Ex.new hF)) .nil))⟩
  · exact hq2.elim
end

/-! ### targets -/
structure JG (X : Cx) (K : PySem.W.Frag) (own : List Nat) (tg : Expr) (g : TG) (h : D → Fm → Option Fm) : Prop where
  hK : X.K = K
  pg : PG X tg g
  tr : ∀ B F H σ env v d env' P, SR K B F H σ env → Dr K F v d → h d env = some env' → (∀ σ', SR K B F H σ' env' → σ'.length = σ.length → (∀ i : Nat, i ∉ own → σ'[i]? = σ[i]?) → P σ' H) → g v σ H P
structure JGs (X : Cx) (K : PySem.W.Frag) (own : List Nat) (tgs : List Expr) (g : TGs) (h : List D → Fm → Option Fm) : Prop where
  hK : X.K = K
  pg : PGs X tgs g
  tr : ∀ B F H σ env vs ds env' P, SR K B F H σ env → DrA K F vs ds → h ds env = some env' → (∀ σ', SR K B F H σ' env' → σ'.length = σ.length → (∀ i : Nat, i ∉ own → σ'[i]? = σ[i]?) → P σ' H) → g vs σ H P
section
variable {X : Cx} {K : PySem.W.Frag} {own : List Nat}
theorem jg_name {i : Nat} {x : Str} {pos : Pos} (hN : X.N.Nodup) (hi : X.N[i]? = some x) (hx : Loc X.env.scope x) (ho : i ∈ own) (hK : X.K = K := by rfl) (hf : X.fn x = true ∨ X.env.scope.names.lookup x = some .local := by first | exact .inl rfl | exact .inr rfl | assumption) :
    JG X K own (.Name x pos) (gName i) (fun d env => some (env.set i (.fz d))) := by
  refine ⟨hK, pg_name hN hi hx hf, fun B F H σ env v d env' P s hd he hP => ?_⟩
  cases he
  refine hP _ (s.setF hd) (List.length_set) fun j hj => ?_
  rw [List.getElem?_set_ne]
  rintro rfl
  exact hj ho
theorem jgs_nil (hK : X.K = K := by rfl) : JGs X K own [] gNil (fun ds env => match ds with | [] => some env | _ => none) := by
  refine ⟨hK, pgs_nil, fun B F H σ env vs ds env' P s hd he hP => ?_⟩
  cases hd with
  | nil => cases he; exact ⟨rfl, hP _ s rfl fun _ _ => rfl⟩
  | cons _ _ => cases he
theorem jgs_cons {e : Expr} {es : List Expr} {t : TG} {u : TGs} {h : D → Fm → Option Fm} {k : List D → Fm → Option Fm} (h1 : JG X K own e t h) (h2 : JGs X K own es u k)
    (hs : (assignEach (e :: es) X.env).map (·.2) = assign e X.env :: (assignEach es X.env).map (·.2) := by rfl) :
    JGs X K own (e :: es) (gCons t u) (fun ds env => match ds with | d :: ds => (h d env).bind (k ds) | [] => none) := by
  refine ⟨h1.hK, pgs_cons h1.pg h2.pg hs, fun B F H σ env vs ds env' P s hd he hP => ?_⟩
  cases hd with
  | nil => cases he
  | cons hd hds =>
    rename_i d ds
    have he : (h d env).bind (k ds) = some env' := he
    cases q : h d env with
    | none => rw [q] at he; cases he
    | some env1 =>
      rw [q] at he
      refine ⟨_, _, rfl, h1.tr B F H σ env _ d env1 _ s hd q fun σ' s' hl hk => ?_⟩
      exact h2.tr B F H σ' env1 _ ds env' _ s' hds he fun σ2 s2 hl2 hk2 => hP σ2 s2 (hl2.trans hl) fun i hi => (hk2 i hi).trans (hk i hi)
theorem jg_tup {es : List Expr} {k : Nat} {t : TGs} {n : Nat} {h : List D → Fm → Option Fm} {pos : Pos} (hc : X.calm = true) (h2 : JGs X K own es t h) (hn : (assignEach es X.env).length = n := by rfl) (hst : (assignEach es X.env).findIdx? (·.1) = none := by rfl) :
    JG X K own (.Tuple es k pos) (gTup K n t) (fun d env => match d with | .tup ds => if ds.length = n then h ds env else none | _ => none) := by
  refine ⟨h2.hK, h2.hK ▸ pg_tup hc h2.pg hn hst, fun B F H σ env v d env' P s hd he hP => ?_⟩
  cases d <;> first | cases he | skip
  rename_i ds
  have he : (if ds.length = n then h ds env else none) = some env' := he
  cases hd with
  | tup h3 h4 =>
    split at he
    · rename_i hn
      exact ⟨_, _, rfl, s.ex.st h3, by rw [h4.length]; exact hn, h2.tr B F H σ env _ ds env' P s h4 he hP⟩
    · cases he
end
end DL

namespace DL
open PySem L2

abbrev E0x : XE := fun _ _ _ _ => False
/-! ### forgetting slots -/
def wipeE (env : Fm) : List Nat → Fm
  | [] => env
  | v :: vs => (wipeE env vs).set v .un
theorem wipeE_length (env : Fm) : ∀ vs : List Nat, (wipeE env vs).length = env.length
  | [] => rfl
  | v :: vs => by unfold wipeE; rw [List.length_set, wipeE_length env vs]
theorem wipeE_in {env : Fm} {i : Nat} {x : Sl} : ∀ {vs : List Nat}, i ∈ vs → (wipeE env vs)[i]? = some x → x = .un
  | v :: vs, hi, h => by
    unfold wipeE at h
    by_cases e : v = i
    · subst e
      have hl : v < (wipeE env vs).length := by
        have := (List.getElem?_eq_some_iff.mp h).1
        rw [List.length_set] at this
        exact this
      rw [List.getElem?_set_self hl] at h
      cases h
      rfl
    · rw [List.getElem?_set_ne e] at h
      exact wipeE_in (by rcases List.mem_cons.mp hi with z | z; exact absurd z.symm e; exact z) h
theorem wipe_in {σ : L2.St} {i : Nat} : ∀ {vs : List Nat}, i ∈ vs → (wipe σ vs)[i]? = if i < σ.length then some none else none
  | v :: vs, hi => by
    unfold wipe
    by_cases e : v = i
    · subst e
      by_cases hl : v < σ.length
      · rw [if_pos hl, List.getElem?_set_self (by rw [wipe_length]; exact hl)]
      · rw [if_neg hl, List.getElem?_eq_none (by rw [List.length_set, wipe_length]; omega)]
    · rw [List.getElem?_set_ne e]
      exact wipe_in (by rcases List.mem_cons.mp hi with z | z; exact absurd z.symm e; exact z)
theorem wipe_ext {σ σ2 : L2.St} {vs : List Nat} (hl : σ2.length = σ.length) (h : ∀ i : Nat, i ∉ vs → σ2[i]? = σ[i]?) : wipe σ2 vs = wipe σ vs := by
  apply List.ext_getElem?
  intro i
  by_cases hi : i ∈ vs
  · rw [wipe_in hi, wipe_in hi, hl]
  · rw [wipe_out hi, wipe_out hi]
    exact h i hi
section
variable {K : PySem.W.Frag} {B : Bs} {F H : Hp} {σ : L2.St} {env : Fm}
theorem SR.setU (s : SR K B F H σ env) (i : Nat) : SR K B F H (σ.set i none) (env.set i .un) where
  ex := s.ex
  ex0 := s.ex0
  keep := s.keep
  newF := s.newF
  len := by rw [List.length_set, List.length_set]; exact s.len
  fz := fun j e h1 => by
    by_cases hij : i = j
    · subst hij
      have hl : i < env.length := by
        have := (List.getElem?_eq_some_iff.mp h1).1
        rw [List.length_set] at this; exact this
      rw [List.getElem?_set_self hl] at h1
      cases h1
    · rw [List.getElem?_set_ne hij] at h1 ⊢
      exact s.fz j e h1
  ow := fun j t e h1 => by
    by_cases hij : i = j
    · subst hij
      have hl : i < env.length := by
        have := (List.getElem?_eq_some_iff.mp h1).1
        rw [List.length_set] at this; exact this
      rw [List.getElem?_set_self hl] at h1
      cases h1
    · rw [List.getElem?_set_ne hij] at h1 ⊢
      exact s.ow j t e h1
  dis := fun j k t u d1 d2 p hjk h1 h2 h3 h4 => by
    have f : ∀ (m : Nat) (t3 : Option Nat) (d3 : D) (q : Addr), (env.set i .un)[m]? = some (.ow t3 d3) → (σ.set i none)[m]? = some (some (.ref q)) → env[m]? = some (.ow t3 d3) ∧ σ[m]? = some (some (.ref q)) := fun m t3 d3 q g1 g2 => by
      by_cases him : i = m
      · subst him
        have hl : i < env.length := by
          have := (List.getElem?_eq_some_iff.mp g1).1
          rw [List.length_set] at this; exact this
        rw [List.getElem?_set_self hl] at g1; cases g1
      · rw [List.getElem?_set_ne him] at g1 g2; exact ⟨g1, g2⟩
    obtain ⟨a1, b1⟩ := f j t d1 p h1 h3
    obtain ⟨a2, b2⟩ := f k u d2 p h2 h4
    exact s.dis j k t u d1 d2 p hjk a1 a2 b1 b2
theorem SR.wipe (s : SR K B F H σ env) : ∀ vs : List Nat, SR K B F H (L2.wipe σ vs) (wipeE env vs)
  | [] => s
  | v :: vs => (SR.wipe s vs).setU v
/-- the slots that nothing is known of may hold anything -/
theorem SR.unwipe {vs : List Nat} (s : SR K B F H (L2.wipe σ vs) env) (hu : ∀ (i : Nat) (x : Sl), i ∈ vs → env[i]? = some x → x = .un) : SR K B F H σ env := by
  have hn : ∀ (i : Nat) (x : Sl), env[i]? = some x → x ≠ .un → (L2.wipe σ vs)[i]? = σ[i]? := fun i x h n => wipe_out fun hi => n (hu i x hi h)
  refine ⟨s.ex, s.ex0, s.keep, s.newF, by rw [← wipe_length σ vs]; exact s.len, fun i d e => ?_, fun i t d e => ?_, fun i j t u d e p hij h1 h2 h3 h4 => ?_⟩
  · rw [← hn i _ e fun z => nomatch z]; exact s.fz i d e
  · rw [← hn i _ e fun z => nomatch z]; exact s.ow i t d e
  · refine s.dis i j t u d e p hij h1 h2 ?_ ?_
    · rw [hn i _ h1 fun z => nomatch z]; exact h3
    · rw [hn j _ h2 fun z => nomatch z]; exact h4
/-- what stood at the entry and is not the def's stands still -/
theorem SR.off (s : SR K B F H σ env) {p : Addr} {o : HO} (h0 : B.H0 p = some o) (hf : B.F0 p = none) (hn : ¬ B.ps p) : H p = some o ∧ F p = none ∧ ¬ owned σ env p := by
  refine ⟨s.keep p o h0 hn, ?_, fun z => ?_⟩
  · cases q : F p with
    | none => rfl
    | some u =>
      rcases s.newF p u q with z | z | z
      · exact absurd hf z
      · rw [h0] at z; cases z
      · exact absurd z hn
  · rcases (s.owned_b z).2.2 with z | z
    · rw [h0] at z; cases z
    · exact hn z
/-- a thing that is nobody's yet changes -/
theorem SR.updOff (s : SR K B F H σ env) {p : Addr} {o : HO} (hF : F p = none) (hb : B.H0 p = none ∨ B.ps p) (hn : ¬ owned σ env p) : SR K B F (upd H p o) σ env where
  ex := fun a u h => by rw [upd_ne (ne_of_none h hF)]; exact s.ex a u h
  ex0 := s.ex0
  keep := fun a u h n => by
    have hne : a ≠ p := fun z => by
      subst z
      rcases hb with z | z
      · rw [h] at z; cases z
      · exact n z
    rw [upd_ne hne]; exact s.keep a u h n
  newF := s.newF
  len := s.len
  fz := s.fz
  ow := fun i t d e => by
    obtain ⟨q, u, h1, h2, h3, h4, h5, h6⟩ := s.ow i t d e
    have hne : q ≠ p := fun z => by subst z; exact hn ⟨i, t, d, e, h1⟩
    exact ⟨q, u, h1, h2, by rw [upd_ne hne]; exact h3, h4, h5, h6⟩
  dis := s.dis
end

/-! ### list comprehensions -/
structure JTs (X : Cx) (K : PySem.W.Frag) (E : XE) (ifs : List Expr) (t : TT) (f : M Bool) : Prop where
  hK : X.K = K
  pt : PTs X ifs t
  tr : Tr K E rB t f
theorem jts_nil {X : Cx} {K : PySem.W.Frag} {E : XE} (hK : X.K = K := by rfl) : JTs X K E [] tYes (ret true) := ⟨hK, pts_nil, fun B F H σ env Q s hq => hq true F H (Ex.refl F) s rfl⟩
theorem jts_one {X : Cx} {K : PySem.W.Frag} {E : XE} {c : Expr} {t : TT} {f : M Bool} (h : JT X K E c t f) : JTs X K E [c] t f := ⟨h.hK, pts_one h.pt, h.tr⟩
def compL (own : List Nat) (h : D → Fm → Option Fm) (ft : M Bool) (fe : M D) : List D → List D → M D
  | [], acc => fun env => .ok (.lst acc) env
  | d :: ds, acc => fun env => match h d env with
    | none => .no
    | some env1 => match ft env1 with
      | .ok false env2 => compL own h ft fe ds acc (wipeE env2 own)
      | .ok true env2 => match fe env2 with
        | .ok y env3 => if acc.length < sizeLine then compL own h ft fe ds (acc ++ [y]) (wipeE env3 own) else .no
        | _ => .no
      | _ => .no
def compM (own : List Nat) (fi : M (List D)) (h : D → Fm → Option Fm) (ft : M Bool) (fe : M D) : M D := bnd fi fun ds env1 => compL own h ft fe ds [] (wipeE env1 own)
theorem compL_noex {own : List Nat} {h : D → Fm → Option Fm} {ft : M Bool} {fe : M D} : ∀ {ds acc : List D} {env : Fm} {x : Exn} {e : Fm}, compL own h ft fe ds acc env ≠ .ex x e
  | [], acc, env, x, e => fun z => nomatch z
  | d :: ds, acc, env, x, e => fun z => by
    unfold compL at z
    split at z
    · cases z
    · split at z
      · exact compL_noex z
      · split at z
        · split at z
          · exact compL_noex z
          · cases z
        · cases z
      · cases z
section
variable {K : PySem.W.Frag} {E : XE}
theorem tr_lc {own : List Nat} {wi : TI} {g : TG} {tt : TT} {te : TE} {fi : M (List D)} {h : D → Fm → Option Fm} {ft : M Bool} {fe : M D} (hi : Tr K E (rI K) wi fi)
    (hg : ∀ B F H σ env v d env' P, SR K B F H σ env → Dr K F v d → h d env = some env' → (∀ σ', SR K B F H σ' env' → σ'.length = σ.length → (∀ i : Nat, i ∉ own → σ'[i]? = σ[i]?) → P σ' H) → g v σ H P)
    (ht : Tr K E0x rB tt ft) (he : Tr K E0x (rD K) te fe) : Tr K E (rN K) (tLc wi g tt te own) (compM own fi h ft fe) := by
  intro B F H σ env Q s hq
  refine hi.step s hq fun ds env1 J F1 H1 e1 s1 r1 hq1 => ?_
  intro Dn hD
  have hb := s1.new_b hD
  have sw := (s1.wipe own).growH (o := .lst []) hD
  have hFD : F1 Dn = none := s1.ex.none hD
  have hno : ¬ owned (wipe σ own) (wipeE env1 own) Dn := fun z => by
    obtain ⟨u, hu⟩ := ((s1.wipe own).owned_b z).2.1
    rw [hD] at hu; cases hu
  refine ⟨fun i m H' => ∃ F' env' accV acc, m = ds.length - i ∧ i ≤ ds.length ∧ Ex F1 F' ∧ SR K B F' H' (wipe σ own) env' ∧ (∀ (j : Nat) (x : Sl), j ∈ own → env'[j]? = some x → x = .un) ∧ H' Dn = some (.lst accV) ∧ DrA K F' accV acc ∧ F' Dn = none ∧ ¬ owned (wipe σ own) env' Dn ∧
      Post K B F1 σ E (rN K) Q (compL own h ft fe (ds.drop i) acc env'),
    ⟨ds.length, F1, wipeE env1 own, [], [], by simp, Nat.zero_le _, Ex.refl F1, sw, fun j x hj hx => wipeE_in hj hx, upd_same, .nil, hFD, hno, by simpa using hq1⟩, ?_⟩
  rintro i m H' ⟨F', env', accV, acc, rfl, hi', e', s', hu, hDn, hacc, hFn, hnow, hp⟩
  by_cases hlt : i < ds.length
  · right
    have hd : ds[i]? = some ds[i] := List.getElem?_eq_getElem hlt
    have hdrop : ds.drop i = ds[i] :: ds.drop (i + 1) := List.drop_eq_getElem_cons hlt
    rw [hdrop] at hp
    obtain ⟨jgo, _, jy⟩ := r1 F' H' e' s'.ex
    refine ⟨jgo i hlt, fun H'' => ∃ F'' env'' accV' acc', Ex F1 F'' ∧ SR K B F'' H'' (wipe σ own) env'' ∧ (∀ (j : Nat) (x : Sl), j ∈ own → env''[j]? = some x → x = .un) ∧ H'' Dn = some (.lst accV') ∧ DrA K F'' accV' acc' ∧ F'' Dn = none ∧ ¬ owned (wipe σ own) env'' Dn ∧
      Post K B F1 σ E (rN K) Q (compL own h ft fe (ds.drop (i + 1)) acc' env''), ?_, ?_⟩
    · rintro H'' ⟨F'', env'', aV, ac, a1, a2, a3, a4, a5, a6, a7, a8⟩
      exact ⟨ds.length - (i + 1), by omega, F'', env'', aV, ac, rfl, hlt, a1, a2, a3, a4, a5, a6, a7, a8⟩
    · intro x H2 hy
      have key : ∃ F2, Ex F' F2 ∧ SR K B F2 H2 (wipe σ own) env' ∧ Dr K F2 x ds[i] ∧ H2 Dn = some (.lst accV) ∧ F2 Dn = none := by
        rcases jy i x H2 ds[i] hd hy with ⟨hx, rfl⟩ | ⟨p, o, hp0, rfl, hx⟩
        · exact ⟨F', Ex.refl F', s', hx, hDn, hFn⟩
        · have hne : Dn ≠ p := ne_of_none hDn hp0
          exact ⟨upd F' p o, Ex.new (s'.ex.none hp0), s'.grow hp0, hx, by rw [upd_ne hne]; exact hDn, by rw [upd_ne hne]; exact hFn⟩
      obtain ⟨F2, e2, s2, hx, hD2, hF2⟩ := key
      have sB := s2.rebase
      unfold compL at hp
      cases hh : h ds[i] env' with
      | none => simp only [hh] at hp; exact hp.elim
      | some env2 =>
        simp only [hh] at hp
        refine hg _ F2 H2 (wipe σ own) env' x ds[i] env2 _ sB hx hh fun σ2 s3 hl3 hk3 => ⟨wipe_ext (hl3.trans (wipe_length σ own)) fun j hj => (hk3 j hj).trans (wipe_out hj), ?_⟩
        have hw2 : wipe σ2 own = wipe σ own := wipe_ext (hl3.trans (wipe_length σ own)) fun j hj => (hk3 j hj).trans (wipe_out hj)
        have off : ∀ {F4 H4 : Hp} {env4 : Fm}, SR K ⟨F2, H2, owned (wipe σ own) env', B.par⟩ F4 H4 σ2 env4 → H4 Dn = some (.lst accV) ∧ F4 Dn = none ∧ ¬ owned σ2 env4 Dn := fun r => r.off hD2 hF2 hnow
        have nown : ∀ {F4 H4 : Hp} {env4 : Fm}, SR K ⟨F2, H2, owned (wipe σ own) env', B.par⟩ F4 H4 σ2 env4 → ¬ owned (wipe σ own) (wipeE env4 own) Dn := fun {F4 H4 env4} r z => by
          obtain ⟨j, t, d, g1, g2⟩ := z
          have hj : j ∉ own := fun hj => by have := wipeE_in hj g1; cases this
          have r' := r.wipe own
          rw [hw2] at r'
          have hoo := (r'.off hD2 hF2 hnow).2.2
          exact hoo ⟨j, t, d, g1, g2⟩
        refine ht _ F2 H2 σ2 env2 _ s3 ?_
        cases hft : ft env2 with
        | no => simp only [hft] at hp; exact hp.elim
        | ex xx ee => simp only [hft] at hp; exact hp.elim
        | ok b env3 =>
          simp only [hft] at hp
          intro b' F3 H3 e3 s4 rb
          cases rb
          cases b with
          | false =>
            refine iteF ?_
            obtain ⟨o1, o2, o3⟩ := off s4
            have s5 := (s2.unbase (fun _ _ _ _ _ z => z) s4).wipe own
            rw [hw2] at s5
            exact ⟨F3, wipeE env3 own, accV, acc, (e'.trans e2).trans e3, s5, fun j x hj hx => wipeE_in hj hx, o1, hacc.mono (e2.trans e3), o2, nown s4, hp⟩
          | true =>
            refine iteT ?_
            refine he _ F3 H3 σ2 env3 _ s4 ?_
            have hp : Post K B F1 σ E (rN K) Q (match fe env3 with
              | .ok y env3 => if acc.length < sizeLine then compL own h ft fe (ds.drop (i + 1)) (acc ++ [y]) (wipeE env3 own) else .no
              | _ => .no) := hp
            cases hfe : fe env3 with
            | no => simp only [hfe] at hp; exact hp.elim
            | ex xx ee => simp only [hfe] at hp; exact hp.elim
            | ok y env4 =>
              simp only [hfe] at hp
              intro v F4 H4 e4 s5 dv
              obtain ⟨o1, o2, o3⟩ := off s5
              have hp : Post K B F1 σ E (rN K) Q (if acc.length < sizeLine then compL own h ft fe (ds.drop (i + 1)) (acc ++ [y]) (wipeE env4 own) else .no) := hp
              by_cases hz : acc.length < sizeLine
              · rw [if_pos hz] at hp
                refine ⟨accV, o1, by rw [hacc.length]; exact hz, ?_⟩
                have s6 := ((s2.unbase (fun _ _ _ _ _ z => z) s5).wipe own)
                rw [hw2] at s6
                have s7 := s6.updOff (o := .lst (accV ++ [v])) o2 hb (nown s5)
                exact ⟨F4, wipeE env4 own, accV ++ [v], acc ++ [y], ((e'.trans e2).trans e3).trans e4, s7, fun j x hj hx => wipeE_in hj hx, upd_same, (hacc.mono ((e2.trans e3).trans e4)).append (.one dv), o2, nown s5, hp⟩
              · rw [if_neg hz] at hp
                exact hp.elim
  · left
    have hie : i = ds.length := by omega
    subst hie
    rw [List.drop_length] at hp
    obtain ⟨_, jstop, _⟩ := r1 F' H' e' s'.ex
    have s8 : SR K B F' H' σ env' := s'.unwipe hu
    refine ⟨jstop _ (Nat.le_refl _), hp _ F' H' e' s8 ⟨Dn, _, rfl, hFn, hDn, .lst hacc, hb, fun z => hnow ?_⟩⟩
    obtain ⟨j, t, d, g1, g2⟩ := z
    refine ⟨j, t, d, g1, ?_⟩
    rw [wipe_out fun hj => by have := hu j _ hj g1; cases this]
    exact g2
end
section
variable {X : Cx} {K : PySem.W.Frag} {E : XE}
theorem j_lc {elt tg iter : Expr} {ifs : List Expr} {scope : Scope} {own : List (Str × Nat)} {pos : Pos} {wi : TI} {g : TG} {tt : TT} {te : TE} {fi : M (List D)} {h : D → Fm → Option Fm} {ft : M Bool} {fe : M D} (hc : X.calm = true) (hN : X.N.Nodup) (ok : BlkOk X.N X.env.scope scope own) (hi : JI X K E tg iter wi fi)
    (hg : ∀ (s : Shared) (H : Hp) (C : Addr) (cl : List (Str × Addr)) (fp : List Addr), JG (X.blk s H scope (compEnvC scope cl C X.env) fp) K (own.map (·.2)) tg g h) (ht : ∀ (s : Shared) (H : Hp) (C : Addr) (cl : List (Str × Addr)) (fp : List Addr), JTs (X.blk s H scope (compEnvC scope cl C X.env) fp) K E0x ifs tt ft)
    (he : ∀ (s : Shared) (H : Hp) (C : Addr) (cl : List (Str × Addr)) (fp : List Addr), JE (X.blk s H scope (compEnvC scope cl C X.env) fp) K E0x elt te fe) (hs : ∀ x, foldedSetIterable iter X.env x = pure x := by intro _; rfl) :
    JN X K E (.ListComp elt [⟨tg, iter, ifs, 0⟩] scope pos) (tLc wi g tt te (own.map (·.2))) (compM (own.map (·.2)) fi h ft fe) :=
  ⟨hi.hK, pe_lc hc hN hi.pi ok (fun s H C cl fp => (hg s H C cl fp).pg) (fun s H C cl fp => (ht s H C cl fp).pt) (fun s H C cl fp => (he s H C cl fp).pe) hs,
    tr_lc hi.tr (hg X.s_0 X.H_0 0 [] []).tr (ht X.s_0 X.H_0 0 [] []).tr (he X.s_0 X.H_0 0 [] []).tr⟩
end

/-! ### statements -/
inductive Out where
  | nx | rt (d : D) | bk | ct
def PostS (K : PySem.W.Frag) (B : Bs) (F : Hp) (E : XE) (Dn : Ends) : Res Out → Prop
  | .ok .nx env' => ∀ F' H' σ', Ex F F' → SR K B F' H' σ' env' → Dn.nx σ' H'
  | .ok (.rt d) env' => ∀ v F' H' σ', Ex F F' → SR K B F' H' σ' env' → Dr K F' v d → Dn.rt v H'
  | .ok .bk env' => ∀ F' H' σ', Ex F F' → SR K B F' H' σ' env' → Dn.bk σ' H'
  | .ok .ct env' => ∀ F' H' σ', Ex F F' → SR K B F' H' σ' env' → Dn.ct σ' H'
  | .ex x env' => ∀ c dd F' H' σ', Ex F F' → SR K B F' H' σ' env' → XR K F' x c dd → E σ' c dd H'
  | .no => False
theorem PostS.mono {K : PySem.W.Frag} {B : Bs} {F F1 : Hp} {E : XE} {Dn : Ends} {r : Res Out} (e : Ex F F1) (h : PostS K B F E Dn r) : PostS K B F1 E Dn r := by
  cases r with
  | no => exact h
  | ex x env' => exact fun c dd F' H' σ' e1 => h c dd F' H' σ' (e.trans e1)
  | ok o env' =>
    cases o with
    | nx => exact fun F' H' σ' e1 => h F' H' σ' (e.trans e1)
    | rt d => exact fun v F' H' σ' e1 => h v F' H' σ' (e.trans e1)
    | bk => exact fun F' H' σ' e1 => h F' H' σ' (e.trans e1)
    | ct => exact fun F' H' σ' e1 => h F' H' σ' (e.trans e1)
def TrS (K : PySem.W.Frag) (E : XE) (t : TS) (f : M Out) : Prop := ∀ B F H σ env Dn, SR K B F H σ env → PostS K B F E Dn (f env) → t Dn σ H
structure JS (X : Cx) (K : PySem.W.Frag) (E : XE) (st : Stmt) (t : TS) (f : M Out) : Prop where
  hK : X.K = K
  ps : PS X st t
  tr : TrS K E t f
structure JSs (X : Cx) (K : PySem.W.Frag) (E : XE) (st : List Stmt) (t : TS) (f : M Out) : Prop where
  hK : X.K = K
  ps : PSs X st t
  tr : TrS K E t f
/-- a value's step ahead of a statement's -/
theorem Tr.stepS {K : PySem.W.Frag} {B : Bs} {F H : Hp} {σ : L2.St} {env : Fm} {E : XE} {β α : Type} {R : RL β α} {t : TB β} {f : M α} (h : Tr K E R t f) (s : SR K B F H σ env) {k : α → M Out} {Dn : Ends} {P : β → Hp → Prop}
    (hq : PostS K B F E Dn (bnd f k env))
    (hk : ∀ a env1 b F1 H1, Ex F F1 → SR K B F1 H1 σ env1 → R B F1 H1 σ env1 b a → PostS K B F1 E Dn (k a env1) → P b H1) : t σ H P := by
  refine h B F H σ env P s ?_
  unfold bnd at hq
  cases e : f env with
  | no => rw [e] at hq; exact hq
  | ex x env' => rw [e] at hq; exact fun c dd F' H' e1 s1 x1 => hq c dd F' H' σ e1 s1 x1
  | ok a env1 =>
    rw [e] at hq
    exact fun b F1 H1 e1 s1 r1 => hk a env1 b F1 H1 e1 s1 r1 (hq.mono e1)
def seqM (f g : M Out) : M Out := fun env => match f env with
  | .ok .nx env1 => g env1
  | r => r
def setM (i : Nat) (f : M D) : M Out := bnd f fun d env => .ok .nx (env.set i (.fz d))
def setO (i : Nat) (f : M D) : M Out := bnd f fun d env => .ok .nx (env.set i (.ow none d))
def drpM (f : M D) : M Out := bnd f fun _ env => .ok .nx env
def retM (f : M D) : M Out := bnd f fun d env => .ok (.rt d) env
section
variable {X : Cx} {K : PySem.W.Frag} {E : XE} {e : Expr} {te : TE} {f : M D} {pos : Pos}
theorem jss_nil (hK : X.K = K := by rfl) : JSs X K E [] tNext (ret .nx) := ⟨hK, pss_nil, fun B F H σ env Dn s hq => hq F H σ (Ex.refl F) s⟩
theorem jss_one {st : Stmt} {t : TS} {f : M Out} (h : JS X K E st t f) : JSs X K E [st] t f := ⟨h.hK, pss_one h.ps, h.tr⟩
theorem jss_cons {st : Stmt} {rest : List Stmt} {t u : TS} {f g : M Out} (h1 : JS X K E st t f) (h2 : JSs X K E rest u g) : JSs X K E (st :: rest) (tSeq t u) (seqM f g) := by
  refine ⟨h1.hK, pss_cons h1.ps h2.ps, fun B F H σ env Dn s hq => ?_⟩
  refine h1.tr B F H σ env { Dn with nx := u Dn } s ?_
  unfold seqM at hq
  cases ef : f env with
  | no => rw [ef] at hq; exact hq
  | ex x env' => rw [ef] at hq; exact hq
  | ok o env1 =>
    rw [ef] at hq
    cases o with
    | nx => exact fun F' H' σ' e1 s1 => h2.tr B F' H' σ' env1 Dn s1 (hq.mono e1)
    | rt d => exact hq
    | bk => exact hq
    | ct => exact hq
theorem js_pass (hK : X.K = K := by rfl) : JS X K E (.Pass pos) tNext (ret .nx) := ⟨hK, ps_pass, fun B F H σ env Dn s hq => hq F H σ (Ex.refl F) s⟩
theorem js_break (hK : X.K = K := by rfl) : JS X K E (.Break pos) tBreak (ret .bk) := ⟨hK, ps_break, fun B F H σ env Dn s hq => hq F H σ (Ex.refl F) s⟩
theorem js_cont (hK : X.K = K := by rfl) : JS X K E (.Continue pos) tCont (ret .ct) := ⟨hK, ps_continue, fun B F H σ env Dn s hq => hq F H σ (Ex.refl F) s⟩
theorem js_retN (hK : X.K = K := by rfl) : JS X K E (.Return none pos) tRetN (ret (.rt .non)) := ⟨hK, ps_retN, fun B F H σ env Dn s hq => hq .non F H σ (Ex.refl F) s .non⟩
theorem js_ret (h : JE X K E e te f) : JS X K E (.Return (some e) pos) (tRet te) (retM f) :=
  ⟨h.hK, ps_ret h.pe, fun B F H σ env Dn s hq => h.tr.stepS s hq fun d env1 v F1 H1 e1 s1 r1 hq1 => hq1 v F1 H1 σ (Ex.refl F1) s1 r1⟩
theorem js_expr (h : JE X K E e te f) (hs : swapsWith e none pos.line X.env = pure false := by rfl) : JS X K E (.Expr e pos) (tDrop te) (drpM f) :=
  ⟨h.hK, ps_expr h.pe hs, fun B F H σ env Dn s hq => h.tr.stepS s hq fun d env1 v F1 H1 e1 s1 r1 hq1 => hq1 F1 H1 σ (Ex.refl F1) s1⟩
theorem js_doc {x j p2} (hK : X.K = K := by rfl) : JS X K E (.Expr (.Constant (.str x) j pos) p2) tNext (ret .nx) := ⟨hK, ps_doc, fun B F H σ env Dn s hq => hq F H σ (Ex.refl F) s⟩
theorem tr_asg {i : Nat} (h : Tr K E (rD K) te f) : TrS K E (tAsg te (gName i)) (setM i f) := fun B F H σ env Dn s hq =>
  h.stepS s hq fun d env1 v F1 H1 e1 s1 r1 hq1 => hq1 F1 H1 _ (Ex.refl F1) (s1.setF r1)
theorem tr_asgO {i : Nat} (h : Tr K E (rN K) te f) : TrS K E (tAsg te (gName i)) (setO i f) := fun B F H σ env Dn s hq =>
  h.stepS s hq fun d env1 v F1 H1 e1 s1 r1 hq1 => by
    obtain ⟨p, o, rfl, h2, h3, h4, h5, h6⟩ := r1
    exact hq1 F1 H1 _ (Ex.refl F1) (s1.setO h2 h3 h4 h5 h6)
theorem js_set (i : Nat) {x : Str} {p2 : Pos} (h : JE X K E e te f) (hN : X.N.Nodup) (hx : Loc X.env.scope x) (hi : X.N[i]? = some x := by rfl) (hs : swapsWith e (some (.Name x p2)) pos.line X.env = pure false := by rfl) (hf : X.fn x = true ∨ X.env.scope.names.lookup x = some .local := by first | exact .inl rfl | exact .inr rfl | assumption) :
    JS X K E (.Assign [.Name x p2] e pos) (tAsg te (gName i)) (setM i f) := ⟨h.hK, ps_set hN hi hx h.pe hs hf, tr_asg h.tr⟩
theorem js_setO (i : Nat) {x : Str} {p2 : Pos} (h : JN X K E e te f) (hN : X.N.Nodup) (hx : Loc X.env.scope x) (hi : X.N[i]? = some x := by rfl) (hs : swapsWith e (some (.Name x p2)) pos.line X.env = pure false := by rfl) (hf : X.fn x = true ∨ X.env.scope.names.lookup x = some .local := by first | exact .inl rfl | exact .inr rfl | assumption) :
    JS X K E (.Assign [.Name x p2] e pos) (tAsg te (gName i)) (setO i f) := ⟨h.hK, ps_set hN hi hx h.pe hs hf, tr_asgO h.tr⟩
def ifS (c : M Bool) (a b : M Out) : M Out := bnd c fun k => if k then a else b
theorem js_if {c : Expr} {a b : List Stmt} {tc : TT} {t u : TS} {k : M Bool} {fa fb : M Out} (hc : JT X K E c tc k) (ha : JSs X K E a t fa) (hb : JSs X K E b u fb) : JS X K E (.If c a b pos) (tIfS tc t u) (ifS k fa fb) :=
  ⟨hc.hK, ps_if hc.pt ha.ps hb.ps, fun B F H σ env Dn s hq => hc.tr.stepS s hq fun d env1 v F1 H1 e1 s1 r1 hq1 => by
    cases r1
    cases d with
    | true => exact iteT (ha.tr B F1 H1 σ env1 Dn s1 hq1)
    | false => exact iteF (hb.tr B F1 H1 σ env1 Dn s1 hq1)⟩
end
/-- name = [..] on one line -/
theorem js_setLc {X : Cx} {K : PySem.W.Frag} {E : XE} (i : Nat) {y : Str} {py : Pos} {elt tg iter : Expr} {ifs : List Expr} {scope : Scope} {own : List (Str × Nat)} {pos spos : Pos} {wi : TI} {g : TG} {tt : TT} {te : TE} {fi : M (List D)} {h : D → Fm → Option Fm} {ft : M Bool} {fe : M D} (hc : X.calm = true) (hN : X.N.Nodup)
    (hyl : X.env.scope.names.lookup y = some .local) (hsw : swapsWith (.ListComp elt [⟨tg, iter, ifs, 0⟩] scope pos) (some (.Name y py)) spos.line X.env = pure true) (ok : BlkOk X.N X.env.scope scope own) (hi : JI X K E tg iter wi fi)
    (hg : ∀ (s : Shared) (H : Hp) (C : Addr) (cl : List (Str × Addr)) (fp : List Addr), JG (X.blk s H scope (compEnvC scope cl C X.env) fp) K (own.map (·.2)) tg g h) (ht : ∀ (s : Shared) (H : Hp) (C : Addr) (cl : List (Str × Addr)) (fp : List Addr), JTs (X.blk s H scope (compEnvC scope cl C X.env) fp) K E0x ifs tt ft)
    (he : ∀ (s : Shared) (H : Hp) (C : Addr) (cl : List (Str × Addr)) (fp : List Addr), JE (X.blk s H scope (compEnvC scope cl C X.env) fp) K E0x elt te fe) (hy : X.N[i]? = some y := by rfl) (hs : ∀ x, foldedSetIterable iter X.env x = pure x := by intro _; rfl) :
    JS X K E (.Assign [.Name y py] (.ListComp elt [⟨tg, iter, ifs, 0⟩] scope pos) spos) (tAsg (tLc wi g tt te (own.map (·.2))) (gName i)) (setO i (compM (own.map (·.2)) fi h ft fe)) :=
  ⟨hi.hK, ps_setLc hc hN hy hyl hsw hi.pi ok (fun s H C cl fp => (hg s H C cl fp).pg) (fun s H C cl fp => (ht s H C cl fp).pt) (fun s H C cl fp => (he s H C cl fp).pe) hs,
    tr_asgO (tr_lc hi.tr (hg X.s_0 X.H_0 0 [] []).tr (ht X.s_0 X.H_0 0 [] []).tr (he X.s_0 X.H_0 0 [] []).tr)⟩

/-! ### for -/
def forL (h : D → Fm → Option Fm) (fb : M Out) : List D → M Out
  | [] => fun env => .ok .nx env
  | d :: ds => fun env => match h d env with
    | none => .no
    | some env1 => match fb env1 with
      | .ok .nx e => forL h fb ds e
      | .ok .ct e => forL h fb ds e
      | .ok .bk e => .ok .nx e
      | .ok (.rt v) e => .ok (.rt v) e
      | .ex x e => .ex x e
      | .no => .no
def forM (fi : M (List D)) (h : D → Fm → Option Fm) (fb : M Out) : M Out := bnd fi fun ds => forL h fb ds
theorem js_for {X : Cx} {K : PySem.W.Frag} {E : XE} {own : List Nat} {tg iter : Expr} {body : List Stmt} {wi : TI} {g : TG} {tb : TS} {pos : Pos} {fi : M (List D)} {h : D → Fm → Option Fm} {fb : M Out} (hp : PassesOwn (model X.prog X.w) X.A X.env X.xe) (hc : X.calm = true) (hi : JI X K E tg iter wi fi) (hg : JG X K own tg g h) (hb : JSs X K E body tb fb)
    (hs : ∀ x, foldedSetIterable iter X.env x = pure x := by intro _; rfl) : JS X K E (.For tg iter body [] pos) (tFor wi g tb) (forM fi h fb) := by
  refine ⟨hi.hK, ps_for hp hc hi.pi hg.pg hb.ps hs, fun B F H σ env Dn s hq => ?_⟩
  refine hi.tr.stepS s hq fun ds env1 J F1 H1 e1 s1 r1 hq1 => ?_
  refine ⟨fun i m σ' H' => ∃ F' env', m = ds.length - i ∧ i ≤ ds.length ∧ Ex F1 F' ∧ SR K B F' H' σ' env' ∧ PostS K B F1 E Dn (forL h fb (ds.drop i) env'),
    ⟨ds.length, F1, env1, by simp, Nat.zero_le _, Ex.refl F1, s1, by simpa using hq1⟩, ?_⟩
  rintro i m σ' H' ⟨F', env', rfl, hi', e', s', hp'⟩
  by_cases hlt : i < ds.length
  · right
    have hd : ds[i]? = some ds[i] := List.getElem?_eq_getElem hlt
    have hdrop : ds.drop i = ds[i] :: ds.drop (i + 1) := List.drop_eq_getElem_cons hlt
    rw [hdrop] at hp'
    obtain ⟨jgo, _, jy⟩ := r1 F' H' e' s'.ex
    refine ⟨jgo i hlt, fun σ'' H'' => ∃ F'' env'', Ex F1 F'' ∧ SR K B F'' H'' σ'' env'' ∧ PostS K B F1 E Dn (forL h fb (ds.drop (i + 1)) env''), ?_, ?_⟩
    · rintro σ'' H'' ⟨F'', env'', a1, a2, a3⟩
      exact ⟨ds.length - (i + 1), by omega, F'', env'', rfl, hlt, a1, a2, a3⟩
    · intro x H2 hy
      have key : ∃ F2, Ex F' F2 ∧ SR K B F2 H2 σ' env' ∧ Dr K F2 x ds[i] := by
        rcases jy i x H2 ds[i] hd hy with ⟨hx, rfl⟩ | ⟨p, o, hp0, rfl, hx⟩
        · exact ⟨F', Ex.refl F', s', hx⟩
        · exact ⟨upd F' p o, Ex.new (s'.ex.none hp0), s'.grow hp0, hx⟩
      obtain ⟨F2, e2, s2, hx⟩ := key
      unfold forL at hp'
      cases hh : h ds[i] env' with
      | none => simp only [hh] at hp'; exact hp'.elim
      | some env2 =>
        simp only [hh] at hp'
        refine hg.tr B F2 H2 σ' env' x ds[i] env2 _ s2 hx hh fun σ2 s3 _ _ => ?_
        refine hb.tr B F2 H2 σ2 env2 _ s3 ?_
        have e12 := e'.trans e2
        cases hfb : fb env2 with
        | no => simp only [hfb] at hp'; exact hp'
        | ex xx ee => simp only [hfb] at hp'; exact fun c dd F3 H3 σ3 e3 => hp' c dd F3 H3 σ3 (e12.trans e3)
        | ok o env3 =>
          simp only [hfb] at hp'
          cases o with
          | nx => exact fun F3 H3 σ3 e3 s4 => ⟨F3, env3, e12.trans e3, s4, hp'⟩
          | ct => exact fun F3 H3 σ3 e3 s4 => ⟨F3, env3, e12.trans e3, s4, hp'⟩
          | bk => exact fun F3 H3 σ3 e3 s4 => hp' F3 H3 σ3 (e12.trans e3) s4
          | rt d => exact fun v F3 H3 σ3 e3 s4 d3 => hp' v F3 H3 σ3 (e12.trans e3) s4 d3
  · left
    have hie : i = ds.length := by omega
    subst hie
    rw [List.drop_length] at hp'
    obtain ⟨_, jstop, _⟩ := r1 F' H' e' s'.ex
    exact ⟨jstop _ (Nat.le_refl _), hp' F' H' σ' e' s'⟩
end DL

/-! Lists changed, texts joined, own defs called, the rule for a def. -/
namespace DL
open PySem L2

/-! ### xs + ys, xs * k: lists -/
def rCatL : R2 := fun x y H Q => ∃ l b xs zs, x = .ref l ∧ y = .ref b ∧ Rd H l (.lst xs) ∧ Rd H b (.lst zs) ∧ xs.length + zs.length ≤ sizeLine ∧ ∀ p, H p = none → Q (.ref p) (upd H p (.lst (xs ++ zs)))
theorem rd_lst {X : Cx} {pins : List (Addr × Obj)} {σ : L2.St} {H : Hp} {s : Shared} {l : Addr} {xs : List V} (I : Inv X pins σ H s) (h : Rd H l (.lst xs)) :
    xs.length ≤ sizeLine ∧ ∃ (its : List Value) (n : Nat), Vals xs its ∧ xs.length = its.length ∧ s.heap.get? l = some { cls := .type "list", data := .seq its.toArray n } := by
  obtain ⟨z, its, n, r, e⟩ := h.ok I.hok
  exact ⟨z, its, n, r, r.length, e⟩
theorem op_catL {X : Cx} : OpR X (binaryOp .Add) rCatL := by
  intro pins s σ H x y v u Q I rx ry h
  obtain ⟨l, b, xs, zs, rfl, rfl, hH, hB, hz, q⟩ := h
  cases rx
  cases ry
  obtain ⟨z, its, n, r, hl, e⟩ := rd_lst I hH
  obtain ⟨z2, its2, n2, r2, hl2, e2⟩ := rd_lst I hB
  refine PySem.P.add_list e e2 ?_ (by rw [List.size_toArray, List.size_toArray]; omega)
  have ea : its.toArray ++ its2.toArray = (its ++ its2).toArray := by simp
  rw [ea]
  exact ⟨.ref _, _, I.lnew (t' := s.toks) (r.append r2) (by rw [List.length_append]; omega), rfl, q _ I.fresh⟩
def catLG : D → D → Option D := fun a b => match a, b with
  | .lst xs, .lst ys => if xs.length + ys.length ≤ sizeLine then some (.lst (xs ++ ys)) else none
  | _, _ => none
theorem on_catL {K : PySem.W.Frag} : OpN K rCatL catLG := by
  intro B F H σ env x y a b c Q s hx hy hg q
  unfold catLG at hg
  split at hg
  · split at hg
    · rename_i hz
      cases hg
      obtain ⟨l, xs, rfl, h1, h2⟩ := hx.lstR s.ex
      obtain ⟨m, ys, rfl, h3, h4⟩ := hy.lstR s.ex
      refine ⟨l, m, xs, ys, rfl, rfl, h1, h3, by rw [h2.length, h4.length]; exact hz, fun p hp => ?_⟩
      obtain ⟨s2, n2⟩ := s.newN hp (Do.lst (h2.append h4))
      exact q _ F _ (Ex.refl F) s2 n2
    · cases hg
  · cases hg
def rRepL : R2 := fun x y H Q => ∃ l k xs, x = .ref l ∧ y = .int k ∧ H l = some (.lst xs) ∧ -(2 ^ 63) ≤ k ∧ k < 2 ^ 63 ∧ xs.length * k.toNat ≤ sizeLine ∧
  ∀ p, H p = none → Q (.ref p) (upd H p (.lst (List.replicate k.toNat xs).flatten))
/-- a list that is written there, times k: the list is new -/
def repM (fa : M D) (fb : M Rv) : M D := bnd fa fun x => bnd fb fun b => bnd (look b) fun k => lft (match x, k with
  | .lst ds, .int k => if -(2 ^ 63) ≤ k ∧ k < 2 ^ 63 ∧ ds.length * k.toNat ≤ sizeLine then some (.lst (List.replicate k.toNat ds).flatten) else none
  | _, _ => none)
theorem DrA.rep {K : PySem.W.Frag} {F : Hp} {xs : List V} {ds : List D} (h : DrA K F xs ds) : ∀ k : Nat, DrA K F (List.replicate k xs).flatten (List.replicate k ds).flatten
  | 0 => .nil
  | k + 1 => by
    rw [List.replicate_succ, List.replicate_succ, List.flatten_cons, List.flatten_cons]
    exact h.append (DrA.rep h k)
theorem Post.mono {K : PySem.W.Frag} {B : Bs} {F F1 : Hp} {σ : L2.St} {E : XE} {β α : Type} {R : RL β α} {Q : β → Hp → Prop} {r : Res α} (e : Ex F F1) (h : Post K B F σ E R Q r) : Post K B F1 σ E R Q r := by
  cases r with
  | no => exact h
  | ex x env' => exact fun c dd F' H' e1 => h c dd F' H' (e.trans e1)
  | ok o env' => exact fun b F' H' e1 => h b F' H' (e.trans e1)
/-- nobody's thing stays while an expression runs -/
theorem Tr.stepF {K : PySem.W.Frag} {E : XE} {β α β' α' : Type} {R : RL β α} {R' : RL β' α'} {t : TB β} {f : M α} (h : Tr K E R t f) {B : Bs} {F H : Hp} {σ : L2.St} {env : Fm} (s : SR K B F H σ env) {p : Addr} {o : HO} (hp : H p = some o) (hF : F p = none) (hn : ¬ owned σ env p)
    (hR : ∀ B' F' H' env' b a, R B' F' H' σ env' b a → R B F' H' σ env' b a) {k : α → M α'} {Q : β' → Hp → Prop} {P : β → Hp → Prop}
    (hq : Post K B F σ E R' Q (bnd f k env))
    (hk : ∀ a env1 b F1 H1, Ex F F1 → SR K B F1 H1 σ env1 → R B F1 H1 σ env1 b a → H1 p = some o → F1 p = none → ¬ owned σ env1 p → Post K B F1 σ E R' Q (k a env1) → P b H1) : t σ H P := by
  refine h _ F H σ env P s.rebase ?_
  unfold bnd at hq
  cases e : f env with
  | no => rw [e] at hq; exact hq
  | ex x env' =>
    rw [e] at hq
    exact fun c dd F' H' e1 s1 x1 => hq c dd F' H' e1 (s.unbase (fun _ _ _ _ _ z => z) s1) x1
  | ok a env' =>
    rw [e] at hq
    intro b F' H' e1 s1 r1
    obtain ⟨o1, o2, o3⟩ := s1.off hp hF hn
    exact hk a env' b F' H' e1 (s.unbase (fun _ _ _ _ _ z => z) s1) (hR _ F' H' env' b a r1) o1 o2 o3 (Post.mono e1 hq)
theorem j_rep {X : Cx} {K : PySem.W.Frag} {E : XE} {a b : Expr} {ta tb : TE} {fa : M D} {fb : M Rv} {pos : Pos} (ha : JN X K E a ta fa) (hb : JR X K E b tb fb) : JN X K E (.BinOp a .Mult b pos) (tOp rRep ta tb) (repM fa fb) := by
  refine ⟨ha.hK, pe_op op_rep ha.pe hb.pe, fun B F H σ env Q s hq => ?_⟩
  refine ha.tr.step s hq fun x env1 v F1 H1 e1 s1 r1 hq1 => ?_
  obtain ⟨p, o, rfl, h2, h3, h4, h5, h6⟩ := r1
  refine hb.tr.stepF s1 h3 h2 h6 (fun _ _ _ _ _ a h => by cases a <;> exact h) hq1 fun bb env2 w F2 H2 e2 s2 r2 k1 k2 k3 hq2 => ?_
  obtain ⟨y, hq3, hy⟩ := Post.look s2 hq2
  obtain ⟨c, hc, hq4⟩ := Post.lft hq3
  split at hc
  · split at hc
    · rename_i hz
      cases hc
      cases h4 with
      | lst hA =>
        have hA2 := hA.mono e2
        refine ⟨p, _, _, rfl, (hy w r2).int, k1, hz.1, hz.2.1, by rw [hA2.length]; exact hz.2.2, fun q hq0 => ?_⟩
        obtain ⟨s3, n3⟩ := s2.newN hq0 (Do.lst (hA2.rep _))
        exact hq4 _ F2 _ (Ex.refl F2) s3 n3
    · cases hc
  · cases hc

/-! ### xs.append(e), xs[i] = e on a slot's own list -/
def isOwL (env : Fm) (i : Nat) : Bool := match env[i]? with
  | some (.ow _ (.lst _)) => true
  | _ => false
def appM (i : Nat) (fe : M D) : M Out := fun env => if isOwL env i then bnd fe (fun y env => match env[i]? with
  | some (.ow t (.lst ds)) => if ds.length < sizeLine then .ok .nx (env.set i (.ow t (.lst (ds ++ [y])))) else .no
  | _ => .no) env else .no
theorem isOwL_sl {K : PySem.W.Frag} {B : Bs} {F H : Hp} {σ : L2.St} {env : Fm} {i : Nat} (s : SR K B F H σ env) (h : isOwL env i = true) : ∃ p xs, σ[i]? = some (some (.ref p)) ∧ H p = some (.lst xs) := by
  unfold isOwL at h
  split at h
  · rename_i t ds e
    obtain ⟨p, o, h1, h2, h3, h4, _⟩ := s.ow i t _ e
    cases h4
    exact ⟨p, _, h1, h3⟩
  · cases h
theorem js_append {X : Cx} {K : PySem.W.Frag} {E : XE} (i : Nat) {x : Str} {e : Expr} {te : TE} {fe : M D} {p1 p2 p3 pos : Pos} (he : JE X K E e te fe)
    (hN : X.N[i]? = some x := by rfl) (hv : Vis X.env.scope x := by first | exact Or.inl rfl | exact Or.inr (Or.inl rfl) | exact Or.inr (Or.inr rfl)) (hd : (x == ("__debug__" : Str)) = false := by decide) (hcd : (x == ("__classdict__" : Str)) = false := by decide)
    (hst : starEach [e] X.env = [(false, eval e X.env)] := by rfl)
    (hbase : attributeBase (.Name x p1) "append" X.env (eval (.Name x p1) X.env) = eval (.Name x p1) X.env := by rfl)
    (hfew : ((backTo p3 (starEach [e] X.env)).all (fun x => !x.1) && (backToKw p3 (keywordEach [] X.env)).all (fun x => x.1.isSome)
      && decide (([e] : List Expr).length + ([] : List Keyword).length + (if ([] : List Keyword).isEmpty then 0 else 1) < 30)) = true := by rfl)
    (hline : (p2.endLine == p3.line) = true := by rfl)
    (hs : swapsWith (.Call (.Attribute (.Name x p1) "append" p2) [e] [] p3) none pos.line X.env = pure false := by rfl) :
    JS X K E (.Expr (.Call (.Attribute (.Name x p1) "append" p2) [e] [] p3) pos) (tDrop (tBM K "list" rAppend (tVar i) (tCons te tNil))) (appM i fe) := by
  refine ⟨he.hK, he.hK ▸ ps_expr (pe_bm PySem.F.plainAttrs_list PySem.F.slot_list_append PySem.F.type_list_append mt_append (pe_var hN hv hd hcd) (pa_cons he.pe pa_nil hst) hbase hfew hline hst rfl) hs, fun B F H σ env Dn s hq => ?_⟩
  unfold appM at hq
  cases ho : isOwL env i with
  | false => rw [ho] at hq; exact hq.elim
  | true =>
    rw [ho, if_pos rfl] at hq
    obtain ⟨p, xs, h1, h2⟩ := isOwL_sl s ho
    refine ⟨.ref p, h1, Or.inl ⟨rfl, xs, SqL.of h2⟩, ?_⟩
    refine he.tr.stepS s hq fun y env1 v F1 H1 e1 s1 r1 hq1 => ?_
    split at hq1
    · rename_i t ds e
      obtain ⟨p', o, g1, g2, g3, g4, g5, g6⟩ := s1.ow i t _ e
      rw [h1] at g1
      cases g1
      cases g4 with
      | lst hA =>
        split at hq1
        · rename_i hz
          refine ⟨p, _, v, rfl, rfl, g3, by rw [hA.length]; exact hz, ?_⟩
          exact hq1 F1 _ σ (Ex.refl F1) (s1.chg e h1 (.lst (hA.append (.one r1))))
        · exact hq1.elim
    · exact hq1.elim
/-- xs[k] = e -/
def setIxM (i : Nat) (fk : M Rv) (fe : M D) : M Out := bnd fe fun y => fun env => if isOwL env i then bnd fk (fun r => bnd (look r) fun kd env => match kd, env[i]? with
  | .int k, some (.ow t (.lst ds)) => match ixN ds.length k with
    | some j => .ok .nx (env.set i (.ow t (.lst (ds.set j y))))
    | none => .no
  | _, _ => .no) env else .no
theorem PostS.look {K : PySem.W.Frag} {B : Bs} {F H : Hp} {σ : L2.St} {env : Fm} {E : XE} {Dn : Ends} {r : Rv} {k : D → M Out} (s : SR K B F H σ env) (h : PostS K B F E Dn (bnd (look r) k env)) : ∃ d, PostS K B F E Dn (k d env) ∧ ∀ v, rV K B F H σ env v r → Dh K F H v d := by
  unfold bnd DL.look at h
  cases r with
  | fz d => exact ⟨d, h, fun v hv => Or.inl hv⟩
  | sl i =>
    cases e : env[i]? with
    | none => simp only [e] at h; exact h.elim
    | some x =>
      cases x with
      | un => simp only [e] at h; exact h.elim
      | fz d =>
        simp only [e] at h
        refine ⟨d, h, fun v hv => ?_⟩
        obtain ⟨v', h1, h2⟩ := s.fz i d e
        have hv' : σ[i]? = some (some v) := hv
        rw [h1] at hv'
        cases hv'
        exact Or.inl h2
      | ow t d =>
        simp only [e] at h
        refine ⟨d, h, fun v hv => ?_⟩
        obtain ⟨p, o, h1, h2, h3, h4, _⟩ := s.ow i t d e
        have hv' : σ[i]? = some (some v) := hv
        rw [h1] at hv'
        cases hv'
        exact Or.inr ⟨p, o, rfl, h3, h4⟩
theorem js_setIx {X : Cx} {K : PySem.W.Frag} {E : XE} (i : Nat) {x : Str} {k e : Expr} {tk te : TE} {fk : M Rv} {fe : M D} {p1 p2 pos : Pos} (hk : JR X K E k tk fk) (he : JE X K E e te fe)
    (hN : X.N[i]? = some x := by rfl) (hv : Vis X.env.scope x := by first | exact Or.inl rfl | exact Or.inr (Or.inl rfl) | exact Or.inr (Or.inr rfl)) (hd : (x == ("__debug__" : Str)) = false := by decide) (hcd : (x == ("__classdict__" : Str)) = false := by decide)
    (hs : swapsWithSole [.Subscript (.Name x p1) k p2] e pos.line X.env = pure false := by rfl) (hw : swappedStores [.Subscript (.Name x p1) k p2] e X.env = pure none := by rfl)
    (h1 : (assignEach [.Subscript (.Name x p1) k p2] X.env).map (·.2) = [assign (.Subscript (.Name x p1) k p2) X.env] := by rfl)
    (ha : ∀ v, assign (.Subscript (.Name x p1) k p2) X.env v = (do
      let ov ← holding [v] (eval (.Name x p1) X.env)
      let iv ← holding [v, ov] (eval k X.env)
      standAt p2
      holding [v, ov, iv] (setItem ov iv v)
      release [v, ov, iv] []) := by intro _; rfl) :
    JS X K E (.Assign [.Subscript (.Name x p1) k p2] e pos) (tAsg te (gSub (tVar i) tk rSetL)) (setIxM i fk fe) := by
  refine ⟨he.hK, ps_asg he.pe (pg_sub (pe_var hN hv hd hcd) hk.pe set_list ha) hs hw h1, fun B F H σ env Dn s hq => ?_⟩
  refine he.tr.stepS s hq fun y env1 v F1 H1 e1 s1 r1 hq1 => ?_
  cases ho : isOwL env1 i with
  | false => rw [ho] at hq1; exact hq1.elim
  | true =>
    rw [ho, if_pos rfl] at hq1
    obtain ⟨p, xs, h1, h2⟩ := isOwL_sl s1 ho
    refine ⟨.ref p, h1, ?_⟩
    refine hk.tr.stepS s1 hq1 fun r env2 w F2 H2 e2 s2 r2 hq2 => ?_
    obtain ⟨kd, hq3, hkd⟩ := PostS.look s2 hq2
    split at hq3
    · rename_i kk t ds e
      obtain ⟨p', o, g1, g2, g3, g4, g5, g6⟩ := s2.ow i t _ e
      rw [h1] at g1
      cases g1
      cases g4 with
      | lst hA =>
        split at hq3
        · rename_i j hj
          refine ⟨p, _, kk, j, rfl, (hkd w r2).int, g3, by rw [hA.length]; exact hj, ?_⟩
          exact hq3 F2 _ σ (Ex.refl F2) (s2.chg e h1 (.lst (hA.set j (r1.mono e2))))
        · exact hq3.elim
    · exact hq3.elim

/-! ### a, b = x, y -/
def parM (i j : Nat) (fa : M (List Rv)) : M Out := bnd fa fun rs => bnd (stills rs) fun ds env => match ds with
  | [a, b] => .ok .nx ((env.set i (.fz a)).set j (.fz b))
  | _ => .no
theorem still_spec {K : PySem.W.Frag} {B : Bs} {F H : Hp} {σ : L2.St} {env : Fm} (s : SR K B F H σ env) (r : Rv) : (∃ d, still r env = .ok d env ∧ ∀ v, rV K B F H σ env v r → Dr K F v d) ∨ still r env = .no := by
  cases r with
  | fz d => exact Or.inl ⟨d, rfl, fun v hv => hv⟩
  | sl i =>
    cases e : env[i]? with
    | none => exact Or.inr (by unfold still; simp only [e])
    | some x =>
      cases x with
      | un => exact Or.inr (by unfold still; simp only [e])
      | ow t d => exact Or.inr (by unfold still; simp only [e])
      | fz d =>
        refine Or.inl ⟨d, by unfold still; simp only [e], fun v hv => ?_⟩
        obtain ⟨v', h1, h2⟩ := s.fz i d e
        have hv' : σ[i]? = some (some v) := hv
        rw [h1] at hv'
        cases hv'
        exact h2
theorem stills_spec {K : PySem.W.Frag} {B : Bs} {F H : Hp} {σ : L2.St} {env : Fm} (s : SR K B F H σ env) : ∀ rs : List Rv, (∃ ds, stills rs env = .ok ds env ∧ ∀ vs, rVs K B F H σ env vs rs → DrA K F vs ds) ∨ stills rs env = .no
  | [] => Or.inl ⟨[], rfl, fun vs hv => by cases vs with | nil => exact .nil | cons _ _ => exact hv.elim⟩
  | r :: rs => by
    rcases still_spec s r with ⟨d, h1, h2⟩ | h1
    · rcases stills_spec s rs with ⟨ds, h3, h4⟩ | h3
      · refine Or.inl ⟨d :: ds, by unfold stills bnd; simp only [h1, h3]; rfl, fun vs hv => ?_⟩
        cases vs with
        | nil => exact hv.elim
        | cons v vs => exact .cons (h2 v hv.1) (h4 vs hv.2)
      · exact Or.inr (by unfold stills bnd; simp only [h1, h3])
    · exact Or.inr (by unfold stills bnd; simp only [h1])
theorem PostS.stills {K : PySem.W.Frag} {B : Bs} {F H : Hp} {σ : L2.St} {env : Fm} {E : XE} {Dn : Ends} {k : List D → M Out} (s : SR K B F H σ env) {rs : List Rv} (h : PostS K B F E Dn (bnd (stills rs) k env)) : ∃ ds, PostS K B F E Dn (k ds env) ∧ ∀ vs, rVs K B F H σ env vs rs → DrA K F vs ds := by
  rcases stills_spec s rs with ⟨ds, h1, h2⟩ | h1
  · unfold bnd at h; simp only [h1] at h; exact ⟨ds, h, h2⟩
  · unfold bnd at h; simp only [h1] at h; exact h.elim
theorem js_par {X : Cx} {K : PySem.W.Frag} {E : XE} (i j : Nat) {x y : Str} {a b : Expr} {ta : TA} {fa : M (List Rv)} {px py pt pos : Pos} {kt k2 : Nat} {pt2 : Pos} (hc : X.calm = true) (hN : X.N.Nodup) (hx : X.env.scope.names.lookup x = some .local) (hy : X.env.scope.names.lookup y = some .local) (ha : JA X K E [a, b] ta fa) (hij : i ≠ j)
    (hi : X.N[i]? = some x := by rfl) (hj : X.N[j]? = some y := by rfl)
    (hw : swappedStores [.Tuple [.Name x px, .Name y py] kt pt] (.Tuple [a, b] k2 pt2) X.env = pure (some [x, y]) := by rfl)
    (hs : swapsWithSole [.Tuple [.Name x px, .Name y py] kt pt] (.Tuple [a, b] k2 pt2) pos.line X.env = pure false := by rfl) :
    JS X K E (.Assign [.Tuple [.Name x px, .Name y py] kt pt] (.Tuple [a, b] k2 pt2) pos) (tPar i j ta) (parM i j fa) := by
  refine ⟨ha.hK, ps_par hc hN hi hj hij hx hy ha.pa hw hs, fun B F H σ env Dn s hq => ?_⟩
  refine ha.tr.stepS s hq fun rs env1 vs F1 H1 e1 s1 r1 hq1 => ?_
  obtain ⟨ds, hq2, hds⟩ := PostS.stills s1 hq1
  have hA := hds vs r1
  split at hq2
  · cases hA with
    | cons h1 t =>
      cases t with
      | cons h2 t =>
        cases t
        exact ⟨_, _, rfl, hq2 F1 H1 _ (Ex.refl F1) ((s1.setF h1).setF h2)⟩
  · exact hq2.elim
/-! ### x += e (ints) -/
def augM (g : D → D → Option D) (i : Nat) (fe : M Rv) : M Out := fun env => match env[i]? with
  | some (.fz x) => bnd fe (fun r => bnd (look r) fun y env => match g x y with
    | some z => .ok .nx (env.set i (.fz z))
    | none => .no) env
  | _ => .no
theorem js_augI {X : Cx} {K : PySem.W.Frag} {E : XE} (i : Nat) {x : Str} {e : Expr} {te : TE} {fe : M Rv} {op : Operator} {f : Int → Int → Int} {p2 pos : Pos} (he : JR X K E e te fe) (ho : PIp X op (ipI f)) (hN : X.N.Nodup) (hx : Loc X.env.scope x) (hi : X.N[i]? = some x := by rfl) (hf : X.fn x = true ∨ X.env.scope.names.lookup x = some .local := by first | exact .inl rfl | exact .inr rfl | assumption) :
    JS X K E (.AugAssign (.Name x p2) op e pos) (tAug i te (ipI f)) (augM (intG (fun _ _ => true) fun a b => .int (f a b)) i fe) := by
  refine ⟨he.hK, ps_aug hN hi hx he.pe ho hf, fun B F H σ env Dn s hq => ?_⟩
  unfold augM at hq
  split at hq
  · rename_i xd ex
    obtain ⟨v, h1, h2⟩ := s.fz i xd ex
    refine ⟨v, h1, he.tr.stepS s hq fun r env1 w F1 H1 e1 s1 r1 hq1 => ?_⟩
    obtain ⟨y, hq2, hy⟩ := PostS.look s1 hq1
    unfold intG at hq2
    cases xd <;> first | exact hq2.elim | skip
    cases y <;> first | exact hq2.elim | skip
    cases h2
    rename_i a b
    exact ⟨a, b, rfl, (hy w r1).int, hq2 F1 H1 _ (Ex.refl F1) (s1.setF (.int _))⟩
  · exact hq.elim

/-! ### sep.join(texts) -/
def strsOf : List D → Option (List Str)
  | [] => some []
  | .str x :: ds => (strsOf ds).map (x :: ·)
  | _ :: _ => none
theorem strsOf_dr {K : PySem.W.Frag} {F : Hp} : ∀ {xs : List V} {ds : List D} {bs : List Str}, DrA K F xs ds → strsOf ds = some bs → xs = bs.map V.str
  | _, _, bs, .nil, h => by cases h; rfl
  | _, _, bs, .cons (d := d) (ds := ds) h t, hb => by
    unfold strsOf at hb
    split at hb
    · rename_i he; cases he
    · rename_i b ds' he
      cases he
      cases h
      cases e : strsOf ds with
      | none => rw [e] at hb; cases hb
      | some bs' =>
        rw [e] at hb
        cases hb
        rw [strsOf_dr t e]
        rfl
    · cases hb
def joinG : D → D → Option D := fun a b => match a, b with
  | .str a, .lst ds => (strsOf ds).bind fun ys => if (ys.map (·.length)).sum + ys.length * a.length ≤ 16777216 then some (.str (Txt.join a ys)) else none
  | .str a, .tup ds => (strsOf ds).bind fun ys => if (ys.map (·.length)).sum + ys.length * a.length ≤ 16777216 then some (.str (Txt.join a ys)) else none
  | _, _ => none
def strM1 (g : D → D → Option D) (fo : M D) (fe : M Rv) : M D := bnd fo fun a => match a with
  | .str x => bnd fe fun r => bnd (look r) fun y => lft (g (.str x) y)
  | _ => nope
theorem j_join {X : Cx} {K : PySem.W.Frag} {E : XE} {o e : Expr} {to te : TE} {fo : M D} {fe : M Rv} {apos pos : Pos} (ho : JE X K E o to fo) (he : JR X K E e te fe) (hs : starEach [e] X.env = [(false, eval e X.env)] := by rfl) (hbase : attributeBase o "join" X.env (eval o X.env) = eval o X.env := by rfl) (hline : (apos.endLine == pos.line) = true := by rfl) :
    JE X K E (.Call (.Attribute o "join" apos) [e] [] pos) (tM1 (fun x xs H Q => ∃ a p, ∃ ys : List Str, x = .str a ∧ xs = [.ref p] ∧ (SqL K H p (ys.map V.str) ∨ SqT K H p (ys.map V.str)) ∧
      (ys.map (·.length)).sum + ys.length * a.length ≤ 16777216 ∧ Q (.str (Txt.join a ys)) H) to te) (strM1 joinG fo fe) := by
  refine ⟨ho.hK, ho.hK ▸ pe_join ho.pe he.pe hs hbase hline, fun B F H σ env Q s hq => ?_⟩
  refine ho.tr.step s hq fun a env1 v F1 H1 e1 s1 r1 hq1 => ?_
  cases a <;> first | exact hq1.elim | skip
  rename_i x
  cases r1
  refine ⟨⟨x, rfl⟩, ?_⟩
  refine he.tr.step s1 hq1 fun r env2 w F2 H2 e2 s2 r2 hq2 => ?_
  obtain ⟨y, hq3, hy⟩ := Post.look s2 hq2
  obtain ⟨c, hc, hq4⟩ := Post.lft hq3
  unfold joinG at hc
  split at hc
  · rename_i a' ds he1
    cases he1
    cases e : strsOf ds with
    | none => rw [e] at hc; cases hc
    | some ys =>
      rw [e] at hc
      simp only [Option.bind_some] at hc
      split at hc
      · rename_i hz
        cases hc
        obtain ⟨p, xs, rfl, h1, h2⟩ := (hy w r2).lst s2.ex
        rw [strsOf_dr h2 e] at h1
        exact ⟨_, p, ys, rfl, rfl, Or.inl h1, hz, hq4 _ F2 H2 (Ex.refl F2) s2 (.str _)⟩
      · cases hc
  · rename_i a' ds he1
    cases he1
    cases e : strsOf ds with
    | none => rw [e] at hc; cases hc
    | some ys =>
      rw [e] at hc
      simp only [Option.bind_some] at hc
      split at hc
      · rename_i hz
        cases hc
        obtain ⟨p, xs, rfl, h1, h2⟩ := (hy w r2).tup s2.ex
        rw [strsOf_dr h2 e] at h1
        exact ⟨_, p, ys, rfl, rfl, Or.inr h1, hz, hq4 _ F2 H2 (Ex.refl F2) s2 (.str _)⟩
      · cases hc
  · cases hc
end DL

/-! Own defs: what they promise, how they are called, the rule for a body. -/
namespace DL
open PySem PySem.Spec PyProof.Rows L2

/-- the entry of a call -/
def Bc (F H : Hp) (vs : List V) (as : Fm) : Bs := ⟨F, H, owned (vs.map some) as, fun k => match vs[k]? with
  | some (.ref p) => some p
  | _ => none⟩
/-- a def's promise: G tells from what the parameters hold what comes back, and what they hold then -/
def spD (K : PySem.W.Frag) (n : Nat) (G : Fm → Res D) : Sp := fun vs H Q E => vs.length = n ∧ ∃ F as, SR K (Bc F H vs as) F H (vs.map some) as ∧ Post K (Bc F H vs as) F (vs.map some) (fun _ => E) (rD K) Q (G as)

section
variable {K : PySem.W.Frag} {B : Bs} {F H F' H' : Hp} {σ : L2.St} {env : Fm}
theorem fz_get {ds : List D} {i : Nat} {x : Sl} (h : (ds.map Sl.fz)[i]? = some x) : ∃ d, ds[i]? = some d ∧ x = .fz d := by
  rw [List.getElem?_map] at h
  cases e : ds[i]? with
  | none => rw [e] at h; cases h
  | some d => rw [e] at h; cases h; exact ⟨d, rfl, rfl⟩
/-- arguments that stand still -/
theorem SR.args (e : Ex F H) {vs : List V} {ds : List D} (h : DrA K F vs ds) {B' : Bs} (hB : B'.F0 = F) (hH : B'.H0 = H) : SR K B' F H (vs.map some) (ds.map .fz) where
  ex := e
  ex0 := by rw [hB]; exact Ex.refl F
  keep := fun a o h _ => by rw [hH] at h; exact h
  newF := fun a o h => Or.inl (by rw [hB, h]; exact fun z => nomatch z)
  len := by rw [List.length_map, List.length_map]; exact h.length
  fz := fun i d h1 => by
    obtain ⟨d', h2, h3⟩ := fz_get h1
    cases h3
    obtain ⟨v, h4, h5⟩ := h.get h2
    exact ⟨v, by rw [List.getElem?_map, h4]; rfl, h5⟩
  ow := fun i t d h1 => by
    obtain ⟨d', h2, h3⟩ := fz_get h1
    cases h3
  dis := fun i j t u d e p _ h1 => by
    obtain ⟨d', h2, h3⟩ := fz_get h1
    cases h3
/-- behind a call that was handed nothing of the frame's own -/
theorem SR.after {B' : Bs} {σ' : L2.St} {as : Fm} (s : SR K B F H σ env) (r : SR K B' F' H' σ' as) (hF : B'.F0 = F) (hH : B'.H0 = H) (hps : ∀ p, ¬ B'.ps p) : SR K B F' H' σ env where
  ex := r.ex
  ex0 := by have := r.ex0; rw [hF] at this; exact s.ex0.trans this
  keep := fun a o h n => r.keep a o (by rw [hH]; exact s.keep a o h n) (hps a)
  newF := fun a o h => by
    rcases r.newF a o h with z | z | z
    · rw [hF] at z
      cases q : F a with
      | none => exact absurd q z
      | some u => exact s.newF a u q
    · rw [hH] at z
      exact Or.inr (s.new_b z)
    · exact absurd z (hps a)
  len := s.len
  fz := fun i d h1 => by
    obtain ⟨v, h2, h3⟩ := s.fz i d h1
    have := r.ex0; rw [hF] at this
    exact ⟨v, h2, h3.mono this⟩
  ow := fun i t d h1 => by
    obtain ⟨p, o, h2, h3, h4, h5, h6, h7⟩ := s.ow i t d h1
    have e0 := r.ex0; rw [hF] at e0
    refine ⟨p, o, h2, ?_, r.keep p o (by rw [hH]; exact h4) (hps p), h5.mono e0, h6, h7⟩
    cases q : F' p with
    | none => rfl
    | some u =>
      rcases r.newF p u q with z | z | z
      · rw [hF] at z; exact absurd h3 z
      · rw [hH, h4] at z; cases z
      · exact absurd z (hps p)
  dis := s.dis
end

/-! ### f(a, b, ..), all that is handed stands still -/
def callF (n : Nat) (G : Fm → Res D) (fa : M (List Rv)) : M D := bnd fa fun rs => bnd (stills rs) fun ds env => if ds.length = n then match G (ds.map .fz) with
  | .ok d _ => .ok d env
  | .ex x _ => .ex x env
  | .no => .no else .no
theorem owned_fz {vs : List V} {ds : List D} {p : Addr} : ¬ owned (vs.map some) (ds.map Sl.fz) p := fun z => by
  obtain ⟨i, t, d, h1, h2⟩ := z
  obtain ⟨d', h3, h4⟩ := fz_get h1
  cases h4
theorem sp_callF {K : PySem.W.Frag} {Ek : XK} {n : Nat} {G : Fm → Res D} {B : Bs} {F H : Hp} {σ : L2.St} {env : Fm} {vs : List V} {ds : List D} {Q : VK} (s : SR K B F H σ env) (hA : DrA K F vs ds)
    (hq : Post K B F σ (fun _ => Ek) (rD K) Q (if ds.length = n then match G (ds.map .fz) with
      | .ok d _ => .ok d env
      | .ex x _ => .ex x env
      | .no => .no else .no)) : spD K n G vs H Q Ek := by
  by_cases hn : ds.length = n
  · rw [if_pos hn] at hq
    refine ⟨by rw [hA.length]; exact hn, F, ds.map .fz, SR.args s.ex hA rfl rfl, ?_⟩
    cases hG : G (ds.map .fz) with
    | no => rw [hG] at hq; exact hq
    | ex x as' => rw [hG] at hq; exact fun c dd F' H' e1 s1 x1 => hq c dd F' H' e1 (s.after s1 rfl rfl fun p => owned_fz) x1
    | ok d as' => rw [hG] at hq; exact fun v F' H' e1 s1 d1 => hq v F' H' e1 (s.after s1 rfl rfl fun p => owned_fz) d1
  · rw [if_neg hn] at hq
    exact hq.elim
theorem tr_callF {K : PySem.W.Frag} {Ek : XK} {n : Nat} {G : Fm → Res D} {ta : TA} {fa : M (List Rv)} (ha : Tr K (fun _ => Ek) (rVs K) ta fa) : Tr K (fun _ => Ek) (rD K) (tCall (spD K n G) [] Ek ta) (callF n G fa) := by
  intro B F H σ env Q s hq
  refine ha.step s hq fun rs env1 vs F1 H1 e1 s1 r1 hq1 => ?_
  obtain ⟨ds, hq2, hds⟩ := Post.stills s1 hq1
  rw [List.append_nil]
  exact sp_callF s1 (hds vs r1) hq2
/-- a def of the module, with what it keeps -/
structure Dfn (P : Program) (w : World) (K : PySem.W.Frag) (mg : Str → Option Value) (base : Heap) (CX : CXT) (k : Nat) (x : Str) (n : Nat) (G : Fm → Res D) : Prop where
  ex : ∃ (f : Addr) (fd : FuncData) (ps : List Str), FnOk P w K mg base CX k f fd ps (spD K n G) ∧ mg x = some (.ref f) ∧ PySem.W.keepIn K (.ref f) = true ∧ Binds K fd ps []
theorem j_call {X : Cx} {K : PySem.W.Frag} {CX : CXT} {k n : Nat} {G : Fm → Res D} {Ek : XK} {x : Str} {e : Expr} {es : List Expr} {ta : TA} {fa : M (List Rv)} {p pos : Pos} (F : Dfn X.prog X.w K X.mg X.base CX k x n G) (hr : Room k X.A) (hx : Passes CX X Ek) (hg : Gl X x) (ha : JA X K (fun _ => Ek) (e :: es) ta fa)
    (hdb : (x == ("__debug__" : Str)) = false := by decide) (he : starEach (e :: es) X.env = (false, eval e X.env) :: starEach es X.env := by rfl) (hpl : (backTo pos (starEach es X.env)).any (·.1) = false := by rfl) :
    JE X K (fun _ => Ek) (.Call (.Name x p) (e :: es) [] pos) (tCall (spD K n G) [] Ek ta) (callF n G fa) := by
  have hK := ha.hK
  subst hK
  obtain ⟨f, fd, ps, h1, h2, h3, h4⟩ := F.ex
  exact ⟨rfl, pe_call h1 hr hg h2 h3 h4 .nil hx ha.pa hdb he hpl, tr_callF ha.tr⟩
theorem j_call0 {X : Cx} {K : PySem.W.Frag} {CX : CXT} {k n : Nat} {G : Fm → Res D} {Ek : XK} {x : Str} {p pos : Pos} (F : Dfn X.prog X.w K X.mg X.base CX k x n G) (hr : Room k X.A) (hx : Passes CX X Ek) (hg : Gl X x) (hK : X.K = K := by rfl) (hdb : (x == ("__debug__" : Str)) = false := by decide) :
    JE X K (fun _ => Ek) (.Call (.Name x p) [] [] pos) (tCall (spD K n G) [] Ek tNil) (callF n G (ret [])) := by
  subst hK
  obtain ⟨f, fd, ps, h1, h2, h3, h4⟩ := F.ex
  exact ⟨rfl, pe_call0 h1 hr hg h2 h3 h4 .nil hx hdb, tr_callF tr_nil⟩

/-! ### f(o, a, ..): o a slot's own thing that f may change -/
def isOw (env : Fm) (i : Nat) : Bool := match env[i]? with
  | some (.ow _ _) => true
  | _ => false
theorem isOw_sl {K : PySem.W.Frag} {B : Bs} {F H : Hp} {σ : L2.St} {env : Fm} {i : Nat} (s : SR K B F H σ env) (h : isOw env i = true) : ∃ p, σ[i]? = some (some (.ref p)) := by
  unfold isOw at h
  split at h
  · rename_i t ds e
    obtain ⟨p, o, h1, _⟩ := s.ow i t _ e
    exact ⟨p, h1⟩
  · cases h
def callO (n : Nat) (G : Fm → Res D) (i : Nat) (fa : M (List Rv)) : M D := fun env => if isOw env i then bnd fa (fun rs => bnd (stills rs) fun ds env => match env[i]? with
  | some (.ow t o) => if ds.length + 1 = n then match G (.ow (some 0) o :: ds.map .fz) with
    | .ok d (.ow (some 0) o' :: _) => .ok d (env.set i (.ow t o'))
    | _ => .no else .no
  | _ => .no) env else .no
theorem owned_one {p q : Addr} {vs : List V} {ds : List D} {t : Option Nat} {o : D} (h : owned ((V.ref p :: vs).map some) (.ow t o :: ds.map Sl.fz) q) : q = p := by
  obtain ⟨i, t', d, h1, h2⟩ := h
  cases i with
  | zero => simp at h2; exact h2.symm
  | succ i =>
    rw [List.getElem?_cons_succ] at h1
    obtain ⟨d', h3, h4⟩ := fz_get h1
    cases h4
theorem sp_callO {K : PySem.W.Frag} {Ek : XK} {n : Nat} {G : Fm → Res D} {B : Bs} {F H : Hp} {σ : L2.St} {env : Fm} {i : Nat} {p : Addr} {t : Option Nat} {o : D} {vs : List V} {ds : List D} {Q : VK} (s : SR K B F H σ env) (hi : env[i]? = some (.ow t o)) (hp : σ[i]? = some (some (.ref p))) (hA : DrA K F vs ds)
    (hq : Post K B F σ (fun _ => Ek) (rD K) Q (if ds.length + 1 = n then match G (.ow (some 0) o :: ds.map .fz) with
      | .ok d (.ow (some 0) o' :: _) => .ok d (env.set i (.ow t o'))
      | _ => .no else .no)) : spD K n G (.ref p :: vs) H Q Ek := by
  by_cases hn : ds.length + 1 = n
  · rw [if_pos hn] at hq
    obtain ⟨p', u, h1, h2, h3, h4, h5, h6⟩ := s.ow i t o hi
    rw [hp] at h1
    cases h1
    have hown : owned ((V.ref p :: vs).map some) (.ow (some 0) o :: ds.map Sl.fz) p := ⟨0, some 0, o, rfl, rfl⟩
    have s0 : SR K (Bc F H (.ref p :: vs) (.ow (some 0) o :: ds.map .fz)) F H ((V.ref p :: vs).map some) (.ow (some 0) o :: ds.map .fz) := by
      have sa := SR.args (B' := ⟨F, H, fun _ => False, fun _ => none⟩) s.ex hA rfl rfl
      refine ⟨s.ex, Ex.refl F, fun _ _ h _ => h, fun a o h => Or.inl fun z => ?_, by simp [hA.length], fun j d h => ?_, fun j t d h => ?_, fun j k t1 t2 d1 d2 q hjk g1 g2 g3 g4 => ?_⟩
      · have z' : F a = none := z
        rw [h] at z'; cases z'
      · cases j with
        | zero => cases h
        | succ j => exact sa.fz j d h
      · cases j with
        | zero =>
          cases h
          exact ⟨p, u, rfl, h2, h3, h4, Or.inr hown, fun k hk => by cases hk; rfl⟩
        | succ j =>
          rw [List.getElem?_cons_succ] at h
          obtain ⟨_, _, z⟩ := fz_get h
          cases z
      · cases j with
        | zero =>
          cases k with
          | zero => exact hjk rfl
          | succ k =>
            rw [List.getElem?_cons_succ] at g2
            obtain ⟨_, _, z⟩ := fz_get g2
            cases z
        | succ j =>
          rw [List.getElem?_cons_succ] at g1
          obtain ⟨_, _, z⟩ := fz_get g1
          cases z
    refine ⟨by simp [hA.length]; exact hn, F, _, s0, ?_⟩
    cases hG : G (.ow (some 0) o :: ds.map .fz) with
    | no => rw [hG] at hq; exact hq
    | ex x as' => rw [hG] at hq; exact hq.elim
    | ok d as' =>
      rw [hG] at hq
      intro v F' H' e1 s1 d1
      cases as' with
      | nil => exact hq.elim
      | cons a as' =>
        cases a with
        | un => exact hq.elim
        | fz _ => exact hq.elim
        | ow t' o' =>
          cases t' with
          | none => exact hq.elim
          | some k =>
            cases k with
            | succ k => exact hq.elim
            | zero =>
              obtain ⟨p2, u2, k1, k2, k3, k4, k5, k6⟩ := s1.ow 0 (some 0) o' rfl
              have k6' := k6 0 rfl
              have hpp : p2 = p := by
                have : some p = some p2 := k6'
                cases this; rfl
              subst hpp
              have hps : ∀ q, (Bc F H (.ref p2 :: vs) (.ow (some 0) o :: ds.map .fz)).ps q → q = p2 := fun q z => owned_one z
              refine hq v F' H' e1 ⟨s1.ex, s.ex0.trans s1.ex0, fun a o h n => ?_, fun a o h => ?_, by rw [List.length_set]; exact s.len, fun j d h => ?_, fun j t3 d3 h => ?_, fun j k t1 t2 d1 d2 q hjk g1 g2 g3 g4 => ?_⟩ d1
              · refine s1.keep a o (s.keep a o h n) fun z => ?_
                have := hps a z
                subst this
                rcases h5 with z | z
                · rw [h] at z; cases z
                · exact n z
              · rcases s1.newF a o h with z | z | z
                · have z' : F a ≠ none := z
                  cases q : F a with
                  | none => exact absurd q z'
                  | some u => exact s.newF a u q
                · exact Or.inr (s.new_b z)
                · rw [hps a z]; exact Or.inr h5
              · by_cases hij : i = j
                · subst hij
                  rw [List.getElem?_set_self ((List.getElem?_eq_some_iff.mp hi).1)] at h; cases h
                · rw [List.getElem?_set_ne hij] at h
                  obtain ⟨v, g1, g2⟩ := s.fz j d h
                  exact ⟨v, g1, g2.mono s1.ex0⟩
              · by_cases hij : i = j
                · subst hij
                  rw [List.getElem?_set_self ((List.getElem?_eq_some_iff.mp hi).1)] at h
                  cases h
                  exact ⟨p2, u2, hp, k2, k3, k4, h5, h6⟩
                · rw [List.getElem?_set_ne hij] at h
                  obtain ⟨q, o2, g1, g2, g3, g4, g5, g6⟩ := s.ow j t3 d3 h
                  have hne : q ≠ p2 := fun z => by
                    subst z
                    exact s.dis i j t t3 o d3 q hij hi h hp g1
                  have hnp : ¬ (Bc F H (.ref p2 :: vs) (.ow (some 0) o :: ds.map .fz)).ps q := fun z => hne (hps q z)
                  refine ⟨q, o2, g1, ?_, s1.keep q o2 g3 hnp, g4.mono s1.ex0, g5, g6⟩
                  cases w : F' q with
                  | none => rfl
                  | some u =>
                    rcases s1.newF q u w with z | z | z
                    · exact absurd g2 z
                    · have z' : H q = none := z
                      rw [g3] at z'; cases z'
                    · exact absurd z hnp
              · have f : ∀ (m : Nat) (t3 : Option Nat) (d3 : D), (env.set i (.ow t o'))[m]? = some (.ow t3 d3) → ∃ t4 d4, env[m]? = some (.ow t4 d4) := fun m t3 d3 g => by
                  by_cases him : i = m
                  · subst him; exact ⟨t, o, hi⟩
                  · rw [List.getElem?_set_ne him] at g; exact ⟨t3, d3, g⟩
                obtain ⟨a1, b1, c1⟩ := f j t1 d1 g1
                obtain ⟨a2, b2, c2⟩ := f k t2 d2 g2
                exact s.dis j k a1 a2 b1 b2 q hjk c1 c2 g3 g4
  · rw [if_neg hn] at hq
    exact hq.elim
theorem tr_callO {K : PySem.W.Frag} {Ek : XK} {n : Nat} {G : Fm → Res D} {i : Nat} {ta : TA} {fa : M (List Rv)} (ha : Tr K (fun _ => Ek) (rVs K) ta fa) : Tr K (fun _ => Ek) (rD K) (tCall (spD K n G) [] Ek (tCons (tVar i) ta)) (callO n G i fa) := by
  intro B F H σ env Q s hq
  unfold callO at hq
  cases ho : isOw env i with
  | false => rw [ho] at hq; exact hq.elim
  | true =>
    rw [ho, if_pos rfl] at hq
    obtain ⟨p, h1⟩ := isOw_sl s ho
    refine ⟨.ref p, h1, ?_⟩
    refine ha.step s hq fun rs env1 vs F1 H1 e1 s1 r1 hq1 => ?_
    obtain ⟨ds, hq2, hds⟩ := Post.stills s1 hq1
    rw [List.append_nil]
    split at hq2
    · rename_i t o hi
      exact sp_callO s1 hi h1 (hds vs r1) hq2
    · exact hq2.elim
theorem j_callO {X : Cx} {K : PySem.W.Frag} {CX : CXT} {k n : Nat} {G : Fm → Res D} {Ek : XK} {x y : Str} (i : Nat) {es : List Expr} {ta : TA} {fa : M (List Rv)} {p p2 pos : Pos} (F : Dfn X.prog X.w K X.mg X.base CX k x n G) (hr : Room k X.A) (hx : Passes CX X Ek) (hg : Gl X x) (ha : JA X K (fun _ => Ek) es ta fa)
    (hN : X.N[i]? = some y := by rfl) (hv : Vis X.env.scope y := by first | exact Or.inl rfl | exact Or.inr (Or.inl rfl) | exact Or.inr (Or.inr rfl)) (hd : (y == ("__debug__" : Str)) = false := by decide) (hcd : (y == ("__classdict__" : Str)) = false := by decide)
    (hdb : (x == ("__debug__" : Str)) = false := by decide) (he : starEach (.Name y p2 :: es) X.env = (false, eval (.Name y p2) X.env) :: starEach es X.env := by rfl) (hpl : (backTo pos (starEach es X.env)).any (·.1) = false := by rfl) :
    JE X K (fun _ => Ek) (.Call (.Name x p) (.Name y p2 :: es) [] pos) (tCall (spD K n G) [] Ek (tCons (tVar i) ta)) (callO n G i fa) := by
  have hK := ha.hK
  subst hK
  obtain ⟨f, fd, ps, h1, h2, h3, h4⟩ := F.ex
  exact ⟨rfl, pe_call h1 hr hg h2 h3 h4 .nil hx (pa_cons (pe_var hN hv hd hcd) ha.pa he) hdb he hpl, tr_callO ha.tr⟩

/-! ### the rule for a def -/
def parOf (env' : Fm) (k : Nat) : Sl → Sl
  | .fz d => .fz d
  | .ow t _ => match env'[k]? with
    | some (.ow (some k') d') => if k' = k then .ow t d' else .un
    | _ => .un
  | .un => .un
def pars (as env' : Fm) : Fm := as.mapIdx (parOf env')
/-- what the body does, as a def -/
def defG (f : M Out) (m : Nat) (as : Fm) : Res D := match f (as ++ List.replicate m .un) with
  | .ok (.rt d) env' => .ok d (pars as env')
  | .ok .nx env' => .ok .non (pars as env')
  | .ex x env' => .ex x (pars as env')
  | _ => .no
section
variable {K : PySem.W.Frag}
theorem SR.start {B : Bs} {F H : Hp} {vs : List V} {as : Fm} (s : SR K B F H (vs.map some) as) (m : Nat) : SR K B F H (vs.map some ++ List.replicate m none) (as ++ List.replicate m .un) := by
  have hl : (vs.map some).length = as.length := s.len
  have g : ∀ (i : Nat) (x : Sl), (as ++ List.replicate m Sl.un)[i]? = some x → x ≠ .un → as[i]? = some x ∧ (vs.map some ++ List.replicate m none)[i]? = (vs.map some)[i]? := fun i x h n => by
    by_cases hi : i < as.length
    · rw [List.getElem?_append_left hi] at h
      exact ⟨h, List.getElem?_append_left (by rw [hl]; exact hi)⟩
    · rw [List.getElem?_append_right (by omega)] at h
      have := List.getElem?_replicate (n := m) (a := Sl.un) (i := i - as.length)
      rw [h] at this
      split at this
      · cases this; exact absurd rfl n
      · cases this
  refine ⟨s.ex, s.ex0, s.keep, s.newF, by rw [List.length_append, List.length_append, hl, List.length_replicate, List.length_replicate], fun i d h => ?_, fun i t d h => ?_, fun i j t u d e p hij h1 h2 h3 h4 => ?_⟩
  · obtain ⟨g1, g2⟩ := g i _ h fun z => nomatch z
    rw [g2]; exact s.fz i d g1
  · obtain ⟨g1, g2⟩ := g i _ h fun z => nomatch z
    rw [g2]; exact s.ow i t d g1
  · obtain ⟨g1, g2⟩ := g i _ h1 fun z => nomatch z
    obtain ⟨g3, g4⟩ := g j _ h2 fun z => nomatch z
    rw [g2] at h3
    rw [g4] at h4
    exact s.dis i j t u d e p hij g1 g3 h3 h4
/-- back to the parameters -/
theorem SR.finish {F H F' H' : Hp} {σ' : L2.St} {vs : List V} {as env' : Fm} (s : SR K (Bc F H vs as) F H (vs.map some) as) (r : SR K (Bc F H vs as) F' H' σ' env') : SR K (Bc F H vs as) F' H' (vs.map some) (pars as env') := by
  have g : ∀ (i : Nat) (x : Sl), (pars as env')[i]? = some x → ∃ y, as[i]? = some y ∧ x = parOf env' i y := fun i x h => by
    unfold pars at h
    rw [List.getElem?_mapIdx] at h
    cases e : as[i]? with
    | none => rw [e] at h; cases h
    | some y => rw [e] at h; cases h; exact ⟨y, rfl, rfl⟩
  have go : ∀ (i : Nat) (t : Option Nat) (d : D), (pars as env')[i]? = some (.ow t d) → ∃ d0, as[i]? = some (.ow t d0) ∧ env'[i]? = some (.ow (some i) d) := fun i t d h => by
    obtain ⟨y, h1, h2⟩ := g i _ h
    cases y with
    | un => cases h2
    | fz _ => cases h2
    | ow t0 d0 =>
      have h2 : Sl.ow t d = (match env'[i]? with
        | some (.ow (some k') d') => if k' = i then .ow t0 d' else .un
        | _ => .un) := h2
      split at h2
      · rename_i k' d' e
        split at h2
        · rename_i hk
          cases h2
          subst hk
          exact ⟨d0, h1, e⟩
        · cases h2
      · cases h2
  refine ⟨r.ex, r.ex0, r.keep, r.newF, by unfold pars; rw [List.length_mapIdx]; exact s.len, fun i d h => ?_, fun i t d h => ?_, fun i j t u d e p hij h1 h2 h3 h4 => ?_⟩
  · obtain ⟨y, h1, h2⟩ := g i _ h
    cases y with
    | un => cases h2
    | fz d0 =>
      cases h2
      obtain ⟨v, g1, g2⟩ := s.fz i _ h1
      exact ⟨v, g1, g2.mono r.ex0⟩
    | ow t0 d0 =>
      have h2 : Sl.fz d = (match env'[i]? with
        | some (.ow (some k') d') => if k' = i then .ow t0 d' else .un
        | _ => .un) := h2
      split at h2
      · split at h2 <;> cases h2
      · cases h2
  · obtain ⟨d0, h1, h2⟩ := go i t d h
    obtain ⟨p, o, q1, q2, q3, q4, q5, q6⟩ := s.ow i t d0 h1
    obtain ⟨p', o', r1, r2, r3, r4, r5, r6⟩ := r.ow i (some i) d h2
    have hp : p' = p := by
      have e1 : (Bc F H vs as).par i = some p' := r6 i rfl
      have e2 : (Bc F H vs as).par i = some p := by
        show (match vs[i]? with | some (.ref p) => some p | _ => none) = some p
        rw [List.getElem?_map] at q1
        cases e : vs[i]? with
        | none => rw [e] at q1; cases q1
        | some v => rw [e] at q1; cases q1; rfl
      rw [e2] at e1
      cases e1; rfl
    subst hp
    exact ⟨p', o', q1, r2, r3, r4, q5, q6⟩
  · obtain ⟨a1, b1, _⟩ := go i t d h1
    obtain ⟨a2, b2, _⟩ := go j u e h2
    exact s.dis i j t u a1 a2 p hij b1 b2 h3 h4
end
section
variable {P : Program} {w : World} {K : PySem.W.Frag} {mg : Str → Option Value} {base : Heap}
/-- G tells no more than the body does -/
def Tells (G : Fm → Res D) (n : Nat) (g : Fm → Res D) : Prop := ∀ as, as.length = n → G as = .no ∨ g as = G as
theorem okD_core {F H : Hp} {vs : List V} {as : Fm} {Q : VK} {E : XK} {f : M Out} {m : Nat} {Gr : Res D} {t : TS} (s : SR K (Bc F H vs as) F H (vs.map some) as) (hp : Post K (Bc F H vs as) F (vs.map some) (fun _ => E) (rD K) Q Gr) (hg : Gr = .no ∨ defG f m as = Gr)
    (ht : TrS K (fun _ => E) t f) : t { nx := fun _ H' => Q .non H', rt := Q } (vs.map some ++ List.replicate m none) H := by
  refine ht (Bc F H vs as) F H _ (as ++ List.replicate m .un) _ (s.start m) ?_
  rcases hg with hg | hg
  · rw [hg] at hp; exact hp.elim
  · rw [← hg] at hp
    unfold defG at hp
    cases e : f (as ++ List.replicate m .un) with
    | no => rw [e] at hp; exact hp
    | ex x env' => rw [e] at hp; exact fun c dd F' H' σ' e1 s1 x1 => hp c dd F' H' e1 (s.finish s1) x1
    | ok o env' =>
      rw [e] at hp
      cases o with
      | nx => exact fun F' H' σ' e1 s1 => hp .non F' H' e1 (s.finish s1) .non
      | rt d => exact fun v F' H' σ' e1 s1 d1 => hp v F' H' e1 (s.finish s1) d1
      | bk => exact hp.elim
      | ct => exact hp.elim
theorem okD {x qual : Str} {st : Stmt} {f : Addr} {fd : FuncData} {N ps : List Str} {k n : Nat} {G : Fm → Res D} {fb : M Out} (Fn : Fun K x qual st f fd) (S : FnScope N ps (defScope st)) (hn : ps.length = n)
    (hbody : ∀ (cdv : Value) (A : Around) (outer : List Env) (s : Shared) (H : Hp) (E : XK), Room k (A.deeper (envOfC qual (defScope st) s.heap.objs.size f cdv)) →
      ∃ t, JSs (cxOf CX0 P w K mg base N qual (defScope st) f cdv A outer s H E).nox K (fun _ => E0) (defBody st) t fb)
    (hG : Tells G n (defG fb (N.length - n))) (hne : ∀ as x e, G as ≠ .ex x e) : FnOk P w K mg base CX0 (k + 1) f fd ps (spD K n G) := by
  refine Fn.ok S (fun vs H Q E h => h.1.trans hn.symm) (fun cdv A outer s H vs Q E hr h => ?_)
  obtain ⟨hl, F, as, sr, hp⟩ := h
  obtain ⟨t, ht⟩ := hbody cdv A outer s H E hr
  refine ⟨t, ht.ps, ?_⟩
  have hal : as.length = n := by have := sr.len; rw [List.length_map] at this; omega
  have hst : L2.start N vs = vs.map some ++ List.replicate (N.length - n) none := by unfold L2.start; rw [hl]
  rw [hst]
  refine okD_core (E := E0) sr ?_ (hG as hal) ht.tr
  cases e : G as with
  | no => rw [e] at hp; exact hp
  | ex x as' => exact absurd e (hne as x as')
  | ok d as' => rw [e] at hp; exact hp
end
end DL

/-! + of any kind, in, {}, upper. -/
namespace DL
open PySem PySem.Spec PyProof.Rows L2

theorem u65 {k : Nat} {A : Around} (r : Room k A) : A.units + 65 < cLine := by have := r.un; omega
/-! ### a + b -/
def catTG : D → D → Option D := fun a b => match a, b with
  | .tup xs, .tup ys => if xs.length + ys.length ≤ sizeLine then some (.tup (xs ++ ys)) else none
  | _, _ => none
theorem od_catT {K : PySem.W.Frag} : OpD K (rCatA K) catTG := by
  intro B F H σ env x y a b c Q s hx hy hg q
  unfold catTG at hg
  split at hg
  · split at hg
    · rename_i hz
      cases hg
      rcases hx with hx | ⟨_, _, _, _, hx⟩
      · cases hx with
        | tup h1 h2 =>
          rcases hy with hy | ⟨_, _, _, _, hy⟩
          · cases hy with
            | tup h3 h4 =>
              refine ⟨_, _, _, _, rfl, rfl, s.ex.st h1, s.ex.st h3, by rw [h2.length, h4.length]; exact hz, fun e => ?_, fun _ e => ?_, fun _ _ p hp => ?_⟩
              · subst e
                cases h2
                exact q _ F H (Ex.refl F) s (.tup h3 h4)
              · subst e
                cases h4
                exact q _ F H (Ex.refl F) s (.tup h1 (by rw [List.append_nil]; exact h2))
              · obtain ⟨e1, s1, d1⟩ := s.newT hp (h2.append h4)
                exact q _ _ _ e1 s1 d1
          · cases hy
      · cases hx
    · cases hg
  · cases hg
def addA : D → D → Option D := orG addG (orG catSG (orG catTG catLG))
abbrev rAddA (K : PySem.W.Frag) : R2 := fun x y H Q => (rI0 fun i j => .int (i + j)) x y H Q ∨ ((∃ i j, x = .str i ∧ y = .str j ∧ i.length + j.length ≤ sizeLine ∧ Q (.str (i ++ j)) H) ∨ (rCatA K x y H Q ∨ rCatL x y H Q))
theorem op_addA {X : Cx} {K : PySem.W.Frag} (hK : X.K = K := by rfl) : OpR X (binaryOp .Add) (rAddA K) := by
  subst hK
  exact op_add.or (op_add_str.or (op_catA.or op_catL))
theorem od_addA {K : PySem.W.Frag} : OpD K (rAddA K) addA := OpD.or od_add (OpD.or od_catS (OpD.or od_catT on_catL.d))

/-! ### x in y -/
def flat : D → Bool
  | .non => true
  | .bl _ => true
  | .int _ => true
  | .str _ => true
  | _ => false
def eqF : D → D → Bool
  | .non, .non => true
  | .bl a, .bl b => a == b
  | .bl a, .int b => (if a then 1 else 0) == b
  | .int a, .bl b => a == (if b then 1 else 0)
  | .int a, .int b => a == b
  | .str a, .str b => a == b
  | _, _ => false
def inF (d : D) (ds : List D) : Option Bool := if flat d && ds.all flat then some (ds.any fun y => eqF y d) else none
def inP (d : D) (ds : List D) : Option Bool := if shp d && shp (.lst ds) then some ((pds ds).any fun z => PyData.eqv z (pd d)) else none
def inL (d : D) (ds : List D) : Option Bool := match inF d ds with
  | some b => some b
  | none => inP d ds
def inSeqG : D → D → Option D := fun a b => match b with
  | .lst ds => (inL a ds).map .bl
  | .tup ds => (inL a ds).map .bl
  | _ => none
def notInSeqG : D → D → Option D := fun a b => match b with
  | .lst ds => (inL a ds).map fun k => .bl (!k)
  | .tup ds => (inL a ds).map fun k => .bl (!k)
  | _ => none
section
variable {K : PySem.W.Frag} {F H : Hp}
theorem Dr.flat {v : V} {d : D} (h : Dr K F v d) (hf : DL.flat d = true) : flatV v = true ∧ ∀ {w : V} {e : D}, Dr K F w e → DL.flat e = true → eqV w v = eqF e d := by
  cases h with
  | non => exact ⟨rfl, fun {w e} h2 f2 => by cases h2 <;> first | rfl | cases f2⟩
  | bl b => exact ⟨rfl, fun {w e} h2 f2 => by cases h2 <;> first | rfl | cases f2⟩
  | int b => exact ⟨rfl, fun {w e} h2 f2 => by cases h2 <;> first | rfl | cases f2⟩
  | str b => exact ⟨rfl, fun {w e} h2 f2 => by cases h2 <;> first | rfl | cases f2⟩
  | lst _ _ => cases hf
  | tup _ _ => cases hf
  | dct _ _ _ => cases hf
  | obj _ _ _ => cases hf
  | cls _ => cases hf
theorem DrA.flat : ∀ {vs : List V} {ds : List D}, DrA K F vs ds → ds.all DL.flat = true → vs.all flatV = true ∧ ∀ {v : V} {d : D}, Dr K F v d → DL.flat d = true → inV v vs = ds.any fun y => eqF y d
  | _, _, .nil, _ => ⟨rfl, fun _ _ => rfl⟩
  | _, _, .cons h t, ha => by
    rw [List.all_cons, Bool.and_eq_true] at ha
    obtain ⟨h1, h2⟩ := DrA.flat t ha.2
    refine ⟨by rw [List.all_cons, (h.flat ha.1).1, h1]; rfl, fun {v d} hv hf => ?_⟩
    unfold inV
    rw [List.any_cons, List.any_cons, (hv.flat hf).2 h ha.1]
    have := h2 hv hf
    unfold inV at this
    rw [this]
theorem Dh.dr_flat {v : V} {d : D} (h : Dh K F H v d) (hf : DL.flat d = true) : Dr K F v d := by
  rcases h with h | ⟨p, o, _, _, h⟩
  · exact h
  · cases h <;> cases hf
end
def rInAll (K : PySem.W.Frag) : R2 := fun x y H Q => ∃ (p : Addr) (d : PyData) (ds : List PyData), y = .ref p ∧ Dp K H x d ∧ (Dp K H y (.list ds) ∨ Dp K H y (.tuple ds)) ∧ SeqAt.shaped d = true ∧ PyData.canLayAll0 ds = true ∧ Q (.bl (ds.any fun z => PyData.eqv z d)) H
def rNotInAll (K : PySem.W.Frag) : R2 := fun x y H Q => ∃ (p : Addr) (d : PyData) (ds : List PyData), y = .ref p ∧ Dp K H x d ∧ (Dp K H y (.list ds) ∨ Dp K H y (.tuple ds)) ∧ SeqAt.shaped d = true ∧ PyData.canLayAll0 ds = true ∧ Q (.bl (!ds.any fun z => PyData.eqv z d)) H
theorem op_inAll {X : Cx} (hu : X.A.units + 65 < cLine) : OpR X (compareOp .In) (rInAll X.K) := by
  intro pins s σ H x y v u Q I rx ry h
  obtain ⟨p, d, ds, rfl, hd, he, sd, se, q⟩ := h
  obtain ⟨as, r1⟩ := Dp.reads I d x v hd rx
  rcases he with he | he
  · obtain ⟨bs, r2⟩ := Dp.reads I (.list ds) _ u he ry
    exact SeqAt.in_list_reads r2 r1 se (SeqAt.canLay_of_shaped sd) (room_in_shaped sd hu) ⟨.bl _, H, I, rfl, q⟩
  · obtain ⟨bs, r2⟩ := Dp.reads I (.tuple ds) _ u he ry
    exact SeqAt.in_tuple_reads r2 r1 se (SeqAt.canLay_of_shaped sd) (room_in_shaped sd hu) ⟨.bl _, H, I, rfl, q⟩
theorem op_notInAll {X : Cx} (hu : X.A.units + 65 < cLine) : OpR X (compareOp .NotIn) (rNotInAll X.K) := by
  intro pins s σ H x y v u Q I rx ry h
  obtain ⟨p, d, ds, rfl, hd, he, sd, se, q⟩ := h
  obtain ⟨as, r1⟩ := Dp.reads I d x v hd rx
  rcases he with he | he
  · obtain ⟨bs, r2⟩ := Dp.reads I (.list ds) _ u he ry
    exact SeqAt.notIn_list_reads r2 r1 se (SeqAt.canLay_of_shaped sd) (room_in_shaped sd hu) ⟨.bl _, H, I, rfl, q⟩
  · obtain ⟨bs, r2⟩ := Dp.reads I (.tuple ds) _ u he ry
    exact SeqAt.notIn_tuple_reads r2 r1 se (SeqAt.canLay_of_shaped sd) (room_in_shaped sd hu) ⟨.bl _, H, I, rfl, q⟩
section
variable {K : PySem.W.Frag}
theorem in_core {B : Bs} {F H : Hp} {σ : L2.St} {env : Fm} {x : V} {a : D} {ds : List D} {p : Addr} {ys : List V} {k : Bool} {Q : Bool → Prop} (s : SR K B F H σ env) (hx : Dh K F H x a) (hs : SqL K H p ys ∨ SqT K H p ys) (hA : DrA K F ys ds) (hk : inL a ds = some k) :
    (flatV x = true ∧ ys.all flatV = true ∧ inV x ys = k) ∨ (∃ (d : PyData) (es : List PyData), Dp K H x d ∧ (Dp K H (.ref p) (.list es) ∨ Dp K H (.ref p) (.tuple es)) ∧ SeqAt.shaped d = true ∧ PyData.canLayAll0 es = true ∧ (es.any fun z => PyData.eqv z d) = k) := by
  unfold inL at hk
  split at hk
  · rename_i b hb
    cases hk
    unfold inF at hb
    split at hb
    · rename_i hf
      cases hb
      rw [Bool.and_eq_true] at hf
      have hd := hx.dr_flat hf.1
      obtain ⟨h1, h2⟩ := hA.flat hf.2
      exact Or.inl ⟨(hd.flat hf.1).1, h1, h2 hd hf.1⟩
    · cases hb
  · unfold inP at hk
    split at hk
    · rename_i hf
      cases hk
      rw [Bool.and_eq_true] at hf
      have hl : PyData.canLayAll0 (pds ds) = true := by
        have := SeqAt.canLay_of_shaped hf.2
        rw [pd] at this
        simpa only [PyData.canLay0] using this
      have hB : Dp K H (.ref p) (.list (pds ds)) ∨ Dp K H (.ref p) (.tuple (pds ds)) := by
        have hA2 : DpAll K H ys (pds ds) := by
          have hr : Rd (upd H p (.lst ys)) p (.lst ys) := Or.inl upd_same
          clear hf hx hs
          have go : ∀ {ys : List V} {ds : List D}, DrA K F ys ds → PyData.canLayAll0 (pds ds) = true → DpAll K H ys (pds ds) := by
            intro ys ds h
            induction h using DrA.rec (motive_1 := fun _ _ _ => True) with
            | nil => intro _; rw [pds]; exact .nil
            | cons h1 h2 _ ih =>
              intro hc
              rw [pds] at hc ⊢
              rw [PyData.canLayAll0, Bool.and_eq_true] at hc
              exact .cons ((h1.mono s.ex).pd hc.1) (ih hc.2)
            | _ => trivial
          exact go hA hl
        rcases hs with hs | hs
        · exact Or.inl (.lst hs hA2)
        · exact Or.inr (.tup hs hA2)
      exact Or.inr ⟨pd a, pds ds, (hx.all s.ex).pd (SeqAt.canLay_of_shaped hf.1), hB, hf.1, hl, rfl⟩
    · cases hk
abbrev rInA (K : PySem.W.Frag) : R2 := fun x y H Q => (∃ (c : Nat) (z : Str), x = .str ⟨#[c]⟩ ∧ y = .str z ∧ Q (.bl (decide (c ∈ z.cps.toList))) H) ∨ (rIn K false x y H Q ∨ rInAll K x y H Q)
abbrev rNotInA (K : PySem.W.Frag) : R2 := fun x y H Q => (∃ (c : Nat) (z : Str), x = .str ⟨#[c]⟩ ∧ y = .str z ∧ Q (.bl (!decide (c ∈ z.cps.toList))) H) ∨ (rIn K true x y H Q ∨ rNotInAll K x y H Q)
theorem op_inA {X : Cx} (hu : X.A.units + 65 < cLine) (hK : X.K = K := by rfl) : OpR X (compareOp .In) (rInA K) := by
  subst hK
  exact op_in_sign.or (op_in_seq.or (op_inAll hu))
theorem op_notInA {X : Cx} (hu : X.A.units + 65 < cLine) (hK : X.K = K := by rfl) : OpR X (compareOp .NotIn) (rNotInA K) := by
  subst hK
  exact op_notIn_sign.or (op_notIn_seq.or (op_notInAll hu))
theorem od_inSeq : OpD K (fun x y H Q => rIn K false x y H Q ∨ rInAll K x y H Q) inSeqG := by
  intro B F H σ env x y a b c Q s hx hy hg q
  have key : ∀ (ds : List D) (p : Addr) (ys : List V), y = .ref p → (SqL K H p ys ∨ SqT K H p ys) → DrA K F ys ds → (inL a ds).map D.bl = some c → rIn K false x y H Q ∨ rInAll K x y H Q := by
    intro ds p ys hy0 hs hA hc
    cases hk : inL a ds with
    | none => rw [hk] at hc; cases hc
    | some k =>
      rw [hk] at hc
      cases hc
      have qk := q _ F H (Ex.refl F) s (.bl k)
      rcases in_core (Q := fun _ => True) s hx hs hA hk with ⟨h1, h2, h3⟩ | ⟨d, es, h1, h2, h3, h4, h5⟩
      · exact Or.inl ⟨p, ys, hy0, hs, h1, h2, by rw [h3]; exact qk⟩
      · exact Or.inr ⟨p, d, es, hy0, h1, by rw [hy0]; exact h2, h3, h4, by rw [h5]; exact qk⟩
  unfold inSeqG at hg
  split at hg
  · obtain ⟨p, ys, hy0, h1, h2⟩ := hy.lst s.ex
    exact key _ p ys hy0 (Or.inl h1) h2 hg
  · obtain ⟨p, ys, hy0, h1, h2⟩ := hy.tup s.ex
    exact key _ p ys hy0 (Or.inr h1) h2 hg
  · cases hg
theorem od_notInSeq : OpD K (fun x y H Q => rIn K true x y H Q ∨ rNotInAll K x y H Q) notInSeqG := by
  intro B F H σ env x y a b c Q s hx hy hg q
  have key : ∀ (ds : List D) (p : Addr) (ys : List V), y = .ref p → (SqL K H p ys ∨ SqT K H p ys) → DrA K F ys ds → (inL a ds).map (fun k => D.bl (!k)) = some c → rIn K true x y H Q ∨ rNotInAll K x y H Q := by
    intro ds p ys hy0 hs hA hc
    cases hk : inL a ds with
    | none => rw [hk] at hc; cases hc
    | some k =>
      rw [hk] at hc
      cases hc
      have qk := q _ F H (Ex.refl F) s (.bl (!k))
      rcases in_core (Q := fun _ => True) s hx hs hA hk with ⟨h1, h2, h3⟩ | ⟨d, es, h1, h2, h3, h4, h5⟩
      · exact Or.inl ⟨p, ys, hy0, hs, h1, h2, by rw [h3]; exact qk⟩
      · exact Or.inr ⟨p, d, es, hy0, h1, by rw [hy0]; exact h2, h3, h4, by rw [h5]; exact qk⟩
  unfold notInSeqG at hg
  split at hg
  · obtain ⟨p, ys, hy0, h1, h2⟩ := hy.lst s.ex
    exact key _ p ys hy0 (Or.inl h1) h2 hg
  · obtain ⟨p, ys, hy0, h1, h2⟩ := hy.tup s.ex
    exact key _ p ys hy0 (Or.inr h1) h2 hg
  · cases hg
def inA : D → D → Option D := orG inSG inSeqG
def notInA : D → D → Option D := orG notInSG notInSeqG
theorem od_inA : OpD K (rInA K) inA := OpD.or od_inS od_inSeq
theorem od_notInA : OpD K (rNotInA K) notInA := OpD.or od_notInS od_notInSeq
end

/-! ### {} -/
theorem j_dct0 {X : Cx} {K : PySem.W.Frag} {E : XE} {pos : Pos} (hK : X.K = K := by rfl) : JN X K E (.Dict [] [] pos) tDNewK (ret (.dct [])) := by
  refine ⟨hK, pe_dnewK, fun B F H σ env Q s hq => fun p hp => ?_⟩
  obtain ⟨s2, n2⟩ := s.newN hp (Do.dct (kvs := []) (kds := []) rfl .nil)
  exact hq _ F _ (Ex.refl F) s2 n2
/-! ### upper -/
def upM (fo : M D) : M D := bnd fo fun a => match a with
  | .str x => if x.length ≤ 5592405 then ret (.str (Txt.upper x)) else nope
  | _ => nope
theorem j_upper {X : Cx} {K : PySem.W.Frag} {E : XE} {o : Expr} {to : TE} {fo : M D} {apos pos : Pos} (ho : JE X K E o to fo) (hbase : attributeBase o "upper" X.env (eval o X.env) = eval o X.env := by rfl) (hline : (apos.endLine == pos.line) = true := by rfl) :
    JE X K E (.Call (.Attribute o "upper" apos) [] [] pos) (tM0 (fun x xs H Q => ∃ a, x = .str a ∧ xs = [] ∧ a.length ≤ 5592405 ∧ Q (.str (Txt.upper a)) H) to) (upM fo) := by
  refine ⟨ho.hK, pe_upper ho.pe hbase hline, fun B F H σ env Q s hq => ?_⟩
  refine ho.tr.step s hq fun a env1 v F1 H1 e1 s1 r1 hq1 => ?_
  cases a <;> first | exact hq1.elim | skip
  rename_i x
  cases r1
  have hq1 : Post K B F1 σ E (rD K) Q ((if x.length ≤ 5592405 then ret (.str (Txt.upper x)) else nope : M D) env1) := hq1
  by_cases hz : x.length ≤ 5592405
  · rw [if_pos hz] at hq1
    exact ⟨⟨x, rfl⟩, x, rfl, rfl, hz, hq1 _ F1 H1 (Ex.refl F1) s1 (.str _)⟩
  · rw [if_neg hz] at hq1
    exact hq1.elim
end DL

/-! Specs by data, loops and comprehensions as lists' functions. -/
namespace DL
open PySem PySem.Spec PyProof.Rows L2

def fzs : Fm → Option (List D)
  | [] => some []
  | .fz d :: as => (fzs as).map (d :: ·)
  | _ :: _ => none
/-- a def that takes data and gives data -/
def specF (g : List D → Option D) : Fm → Res D := fun as => match fzs as with
  | some ds => match g ds with
    | some d => .ok d as
    | none => .no
  | none => .no
theorem fzs_some : ∀ {as : Fm} {ds : List D}, fzs as = some ds → as = ds.map .fz
  | [], ds, h => by cases h; rfl
  | .fz d :: as, ds, h => by
    unfold fzs at h
    cases e : fzs as with
    | none => rw [e] at h; cases h
    | some es => rw [e] at h; cases h; rw [fzs_some e]; rfl
  | .un :: as, ds, h => by cases h
  | .ow _ _ :: as, ds, h => by cases h
theorem fzs_map : ∀ ds : List D, fzs (ds.map .fz) = some ds
  | [] => rfl
  | d :: ds => by
    show (fzs (ds.map .fz)).map (d :: ·) = some (d :: ds)
    rw [fzs_map ds]; rfl
theorem specF_map (g : List D → Option D) (ds : List D) : specF g (ds.map .fz) = match g ds with
    | some d => .ok d (ds.map .fz)
    | none => .no := by
  unfold specF
  rw [fzs_map]
theorem specF_noex (g : List D → Option D) : ∀ as x e, specF g as ≠ .ex x e := fun as x e z => by
  unfold specF at z
  split at z
  · split at z <;> cases z
  · cases z
theorem pars_fz (ds : List D) (env' : Fm) : pars (ds.map .fz) env' = ds.map .fz := by
  unfold pars
  apply List.ext_getElem?
  intro i
  rw [List.getElem?_mapIdx, List.getElem?_map]
  cases ds[i]? <;> rfl
theorem tells_F {g : List D → Option D} {n m : Nat} {f : M Out} (h : ∀ ds d, ds.length = n → g ds = some d → ∃ env', f (ds.map .fz ++ List.replicate m .un) = .ok (.rt d) env') : Tells (specF g) n (defG f m) := fun as hl => by
  unfold specF
  cases e : fzs as with
  | none => exact Or.inl rfl
  | some ds =>
    cases e2 : g ds with
    | none => exact Or.inl (by simp only [e2])
    | some d =>
      have ea := fzs_some e
      subst ea
      obtain ⟨env', he⟩ := h ds d (by rw [List.length_map] at hl; exact hl) e2
      refine Or.inr ?_
      simp only [e2]
      unfold defG
      rw [he]
      show Res.ok d (pars (ds.map .fz) env') = _
      rw [pars_fz]
/-- what a call of such a def gives -/
def callS (n : Nat) (g : List D → Option D) (fa : M (List Rv)) : M D := bnd fa fun rs => bnd (stills rs) fun ds env => if ds.length = n then match g ds with
  | some d => .ok d env
  | none => .no else .no
theorem callF_spec (n : Nat) (g : List D → Option D) (fa : M (List Rv)) : callF n (specF g) fa = callS n g fa := by
  unfold callF callS
  congr 1
  funext rs
  congr 1
  funext ds env
  split
  · rw [specF_map]
    cases g ds <;> rfl
  · rfl
theorem compL_map {own : List Nat} {h : D → Fm → Option Fm} {ft : M Bool} {fe : M D} {g : D → D} {env : Fm} : ∀ {ds acc : List D},
    (∀ d ∈ ds, ∃ env1 env2 env3, h d env = some env1 ∧ ft env1 = .ok true env2 ∧ fe env2 = .ok (g d) env3 ∧ wipeE env3 own = env) → acc.length + ds.length ≤ sizeLine →
    compL own h ft fe ds acc env = .ok (.lst (acc ++ ds.map g)) env
  | [], acc, _, _ => by rw [List.map_nil, List.append_nil]; rfl
  | d :: ds, acc, hh, hz => by
    obtain ⟨env1, env2, env3, h1, h2, h3, h4⟩ := hh d (by simp)
    unfold compL
    rw [List.length_cons] at hz
    simp only [h1, h2, h3]
    rw [if_pos (by omega), h4, compL_map (fun d' hd' => hh d' (List.mem_cons_of_mem _ hd')) (by rw [List.length_append, List.length_singleton]; omega)]
    rw [List.map_cons, List.append_assoc]; rfl
theorem compL_filter {own : List Nat} {h : D → Fm → Option Fm} {ft : M Bool} {fe : M D} {p : D → Bool} {g : D → D} {env : Fm} : ∀ {ds acc : List D},
    (∀ d ∈ ds, ∃ env1 env2, h d env = some env1 ∧ ft env1 = .ok (p d) env2 ∧ (p d = false → wipeE env2 own = env) ∧ (p d = true → ∃ env3, fe env2 = .ok (g d) env3 ∧ wipeE env3 own = env)) → acc.length + ds.length ≤ sizeLine →
    compL own h ft fe ds acc env = .ok (.lst (acc ++ (ds.filter p).map g)) env
  | [], acc, _, _ => by rw [List.filter_nil, List.map_nil, List.append_nil]; rfl
  | d :: ds, acc, hh, hz => by
    obtain ⟨env1, env2, h1, h2, h3, h4⟩ := hh d (by simp)
    unfold compL
    rw [List.length_cons] at hz
    cases hp : p d with
    | false =>
      rw [hp] at h2
      simp only [h1, h2, h3 hp]
      rw [compL_filter (fun d' hd' => hh d' (List.mem_cons_of_mem _ hd')) (by omega), List.filter_cons_of_neg (by rw [hp]; decide)]
    | true =>
      rw [hp] at h2
      obtain ⟨env3, h5, h6⟩ := h4 hp
      simp only [h1, h2, h5]
      rw [if_pos (by omega), h6, compL_filter (fun d' hd' => hh d' (List.mem_cons_of_mem _ hd')) (by rw [List.length_append, List.length_singleton]; omega), List.filter_cons_of_pos hp, List.map_cons, List.append_assoc]
      rfl
/-- a loop that goes through, by what holds ahead of each turn -/
theorem forL_inv {h : D → Fm → Option Fm} {fb : M Out} (P : Nat → Fm → Prop) : ∀ {ds : List D} {i : Nat} {env : Fm}, P i env → (∀ (j : Nat) (d : D) (e : Fm), ds[j]? = some d → P (i + j) e → ∃ e1 e2, h d e = some e1 ∧ (fb e1 = .ok .nx e2 ∨ fb e1 = .ok .ct e2) ∧ P (i + j + 1) e2) →
    ∃ e, forL h fb ds env = .ok .nx e ∧ P (i + ds.length) e
  | [], i, env, h0, _ => ⟨env, rfl, h0⟩
  | d :: ds, i, env, h0, hs => by
    obtain ⟨e1, e2, h1, h2, h3⟩ := hs 0 d env rfl h0
    obtain ⟨e, h4, h5⟩ := forL_inv P (ds := ds) (i := i + 1) (env := e2) h3 fun j d' e' hj hp => by
      have := hs (j + 1) d' e' hj (by rw [show i + (j + 1) = i + 1 + j by omega]; exact hp)
      rw [show i + (j + 1) + 1 = i + 1 + j + 1 by omega] at this
      exact this
    refine ⟨e, ?_, by rw [List.length_cons, show i + (ds.length + 1) = i + 1 + ds.length by omega]; exact h5⟩
    unfold forL
    rcases h2 with h2 | h2 <;> (simp only [h1, h2]; exact h4)

/-! ### running: what simp uses -/
section
variable {α β : Type} {env : Fm}
theorem e_retb (a : α) (k : α → M β) : bnd (ret a) k = k a := rfl
theorem e_asc {γ : Type} (f : M α) (g : α → M β) (h : β → M γ) : bnd (bnd f g) h = bnd f fun a => bnd (g a) h := bnd_assoc f g h
theorem e_rdV (i : Nat) (k : Rv → M β) : bnd (rdV i) k env = match env[i]? with
    | some (.fz _) => k (.sl i) env
    | some (.ow _ _) => k (.sl i) env
    | _ => .no := by
  unfold bnd rdV
  cases env[i]? with
  | none => rfl
  | some x => cases x <;> rfl
theorem e_rdV1 (i : Nat) : rdV i env = match env[i]? with
    | some (.fz _) => .ok (.sl i) env
    | some (.ow _ _) => .ok (.sl i) env
    | _ => .no := rfl
theorem e_getF (i : Nat) (k : D → M β) : bnd (getF i) k env = match env[i]? with
    | some (.fz d) => k d env
    | some (.ow _ d) => k d (env.set i (.fz d))
    | _ => .no := by
  unfold bnd getF
  cases env[i]? with
  | none => rfl
  | some x => cases x <;> rfl
theorem e_lookF (d : D) (k : D → M β) : bnd (look (.fz d)) k = k d := rfl
theorem e_lookS (i : Nat) (k : D → M β) : bnd (look (.sl i)) k env = match env[i]? with
    | some (.fz d) => k d env
    | some (.ow _ d) => k d env
    | _ => .no := by
  unfold bnd look
  simp only
  cases env[i]? with
  | none => rfl
  | some x => cases x <;> rfl
theorem e_stillF (d : D) (k : D → M β) : bnd (still (.fz d)) k = k d := rfl
theorem e_stillS (i : Nat) (k : D → M β) : bnd (still (.sl i)) k env = match env[i]? with
    | some (.fz d) => k d env
    | _ => .no := by
  unfold bnd still
  simp only
  cases env[i]? with
  | none => rfl
  | some x => cases x <;> rfl
theorem e_lfts (a : α) (k : α → M β) : bnd (lft (some a)) k = k a := rfl
theorem e_lftn (k : α → M β) : bnd (lft (none : Option α)) k = nope := rfl
theorem e_lfts1 (a : α) : lft (some a) = ret a := rfl
theorem e_lftn1 : lft (none : Option α) = nope := rfl
theorem e_nope (k : α → M β) : bnd nope k = nope := rfl
theorem e_nope1 : (nope : M α) env = .no := rfl
theorem e_ret1 (a : α) : ret a env = .ok a env := rfl
theorem e_ite (c : Prop) [Decidable c] (f g : M α) (k : α → M β) : bnd (if c then f else g) k = if c then bnd f k else bnd g k := by split <;> rfl
theorem e_iteA (c : Prop) [Decidable c] (f g : M α) : (if c then f else g) env = if c then f env else g env := by split <;> rfl
theorem e_asB (b : Bool) : asB (.bl b) = ret b := rfl
theorem e_ok {f : M α} {a : α} {e : Fm} (h : f env = .ok a e) (k : α → M β) : bnd f k env = k a e := by unfold bnd; rw [h]
theorem e_asS (z : Str) : asS (.str z) = ret (chars z) := rfl
theorem e_asL (ds : List D) : asL (.lst ds) = ret ds := rfl
theorem e_asT (ds : List D) : asT (.tup ds) = ret ds := rfl
theorem e_seq_nx {f g : M Out} {e : Fm} (h : f env = .ok .nx e) : seqM f g env = g e := by unfold seqM; rw [h]
theorem e_seq_rt {f g : M Out} {e : Fm} {d : D} (h : f env = .ok (.rt d) e) : seqM f g env = .ok (.rt d) e := by unfold seqM; rw [h]
end
/-! ### isinstance of a built-in class -/
def isT (T : String) (d : D) : Option Bool := (tyn d).map fun a => tyIs a T
theorem isiG_str (d : D) : isiG [d, .cls (.ty "str")] = (match d with
    | .str _ => some (.bl true)
    | .obj _ _ => none
    | .cls _ => none
    | _ => some (.bl false)) := by cases d <;> rfl
theorem isiG_int (d : D) : isiG [d, .cls (.ty "int")] = (match d with
    | .int _ => some (.bl true)
    | .bl _ => some (.bl true)
    | .obj _ _ => none
    | .cls _ => none
    | _ => some (.bl false)) := by cases d <;> rfl
theorem isiG_bool (d : D) : isiG [d, .cls (.ty "bool")] = (match d with
    | .bl _ => some (.bl true)
    | .obj _ _ => none
    | .cls _ => none
    | _ => some (.bl false)) := by cases d <;> rfl
theorem isiG_tuple (d : D) : isiG [d, .cls (.ty "tuple")] = (match d with
    | .tup _ => some (.bl true)
    | .obj _ _ => none
    | .cls _ => none
    | _ => some (.bl false)) := by cases d <;> rfl
theorem isiG_list (d : D) : isiG [d, .cls (.ty "list")] = (match d with
    | .lst _ => some (.bl true)
    | .obj _ _ => none
    | .cls _ => none
    | _ => some (.bl false)) := by cases d <;> rfl
theorem isiG_dict (d : D) : isiG [d, .cls (.ty "dict")] = (match d with
    | .dct _ => some (.bl true)
    | .obj _ _ => none
    | .cls _ => none
    | _ => some (.bl false)) := by cases d <;> rfl

/-! ### the operations at known kinds -/
section
variable (i j : Int)
theorem e_add : addA (.int i) (.int j) = some (.int (i + j)) := rfl
theorem e_sub : subG (.int i) (.int j) = some (.int (i - j)) := rfl
theorem e_lt : ltG (.int i) (.int j) = some (.bl (decide (i < j))) := rfl
theorem e_le : leG (.int i) (.int j) = some (.bl (decide (i ≤ j))) := rfl
theorem e_gt : gtG (.int i) (.int j) = some (.bl (decide (j < i))) := rfl
theorem e_ge : geG (.int i) (.int j) = some (.bl (decide (j ≤ i))) := rfl
theorem e_eqI : eqG (.int i) (.int j) = some (.bl (decide (i = j))) := rfl
theorem e_neI : neG (.int i) (.int j) = some (.bl (!decide (i = j))) := rfl
theorem e_eqS (a b : Str) : eqG (.str a) (.str b) = some (.bl (decide (a = b))) := rfl
theorem e_neS (a b : Str) : neG (.str a) (.str b) = some (.bl (!decide (a = b))) := rfl
theorem e_eqB (a b : Bool) : eqG (.bl a) (.bl b) = some (.bl (decide (a = b))) := rfl
theorem e_neB (a b : Bool) : neG (.bl a) (.bl b) = some (.bl (!decide (a = b))) := rfl
theorem e_isB (a b : Bool) : isBG (.bl a) (.bl b) = some (.bl (decide (a = b))) := rfl
theorem e_notB (a b : Bool) : notBG (.bl a) (.bl b) = some (.bl (!decide (a = b))) := rfl
theorem e_mod (h : 0 < j) : modG (.int i) (.int j) = some (.int (i % j)) := by
  show (if cMod i j then _ else none) = _
  rw [if_pos (show cMod i j = true from decide_eq_true h)]
theorem e_div (h : 0 < j ∧ j < 1073741824) : divG (.int i) (.int j) = some (.int (i / j)) := by
  show (if cDiv i j then _ else none) = _
  rw [if_pos (show cDiv i j = true from decide_eq_true h)]
theorem e_pow (h : 0 ≤ j ∧ j ≤ 1000000 ∧ i.natAbs < 2 ^ 64) : powG (.int i) (.int j) = some (.int (i ^ j.toNat)) := by
  show (if cPow i j then _ else none) = _
  rw [if_pos (show cPow i j = true from decide_eq_true h)]
theorem e_mulL (h : -(2 ^ 64) < i ∧ i < 2 ^ 64) : mulG (.int i) (.int j) = some (.int (i * j)) := by
  show (if cMul i j then _ else none) = _
  rw [if_pos (by unfold cMul; rw [decide_eq_true h]; rfl)]
theorem e_mulR (h : -(2 ^ 64) < j ∧ j < 2 ^ 64) : mulG (.int i) (.int j) = some (.int (i * j)) := by
  show (if cMul i j then _ else none) = _
  rw [if_pos (by unfold cMul; rw [decide_eq_true h, Bool.or_true])]
theorem e_lenS {x : Str} (h : x.length ≤ sizeLine) : lenG [.str x] = some (.int x.length) := by
  show (if x.length ≤ sizeLine then some (D.int x.length) else none) = _
  rw [if_pos h]
theorem e_lenL (ds : List D) : lenG [.lst ds] = some (.int ds.length) := rfl
theorem e_lenT (ds : List D) : lenG [.tup ds] = some (.int ds.length) := rfl
theorem e_catS {x y : Str} (h : x.length + y.length ≤ sizeLine) : addA (.str x) (.str y) = some (.str (x ++ y)) := by
  show (match (if x.length + y.length ≤ sizeLine then some (D.str (x ++ y)) else none) with | some c => some c | none => _) = _
  rw [if_pos h]
theorem e_catL {x y : List D} (h : x.length + y.length ≤ sizeLine) : addA (.lst x) (.lst y) = some (.lst (x ++ y)) := by
  show (if x.length + y.length ≤ sizeLine then some (D.lst (x ++ y)) else none) = _
  rw [if_pos h]
theorem e_catT {x y : List D} (h : x.length + y.length ≤ sizeLine) : addA (.tup x) (.tup y) = some (.tup (x ++ y)) := by
  show (match (if x.length + y.length ≤ sizeLine then some (D.tup (x ++ y)) else none) with | some c => some c | none => _) = _
  rw [if_pos h]
theorem e_in1 (c : Nat) (z : Str) : inA (.str ⟨#[c]⟩) (.str z) = some (.bl (decide (c ∈ z.cps.toList))) := rfl
theorem e_notIn1 (c : Nat) (z : Str) : notInA (.str ⟨#[c]⟩) (.str z) = some (.bl (!decide (c ∈ z.cps.toList))) := rfl
theorem e_max : max2G [.int i, .int j] = some (.int (if j > i then j else i)) := rfl
theorem e_min : min2G [.int i, .int j] = some (.int (if j < i then j else i)) := rfl
theorem e_intI : intG1 [.int i] = some (.int i) := rfl
theorem e_intB (k : Bool) : intG1 [.bl k] = some (.int (if k then 1 else 0)) := rfl
theorem boolsOf_map {α : Type} (f : α → Bool) : ∀ xs : List α, boolsOf (xs.map fun x => D.bl (f x)) = some (xs.map f)
  | [] => rfl
  | x :: xs => by
    show (boolsOf (xs.map fun x => D.bl (f x))).map (f x :: ·) = some (f x :: xs.map f)
    rw [boolsOf_map f xs]; rfl
theorem strsOf_map {α : Type} (f : α → Str) : ∀ xs : List α, strsOf (xs.map fun x => D.str (f x)) = some (xs.map f)
  | [] => rfl
  | x :: xs => by
    show (strsOf (xs.map fun x => D.str (f x))).map (f x :: ·) = some (f x :: xs.map f)
    rw [strsOf_map f xs]; rfl
end
theorem e_ixL {ds : List D} {i : Int} {n : Nat} {d : D} (h : i = (n : Int)) (hd : ds[n]? = some d) : ixG (.lst ds) (.int i) = some d := by
  subst h
  exact atI_nat hd
theorem e_ixT {ds : List D} {i : Int} {n : Nat} {d : D} (h : i = (n : Int)) (hd : ds[n]? = some d) : ixG (.tup ds) (.int i) = some d := by
  subst h
  exact atI_nat hd
theorem e_ixS {z : Str} {i : Int} {n : Nat} {c : Nat} (hz : z.length ≤ sizeLine) (h : i = (n : Int)) (hd : z.cps.toList[n]? = some c) : ixG (.str z) (.int i) = some (.str ⟨#[c]⟩) := by
  subst h
  show (if z.length ≤ sizeLine then (atI z.cps.toList (n : Int)).map fun c => D.str ⟨#[c]⟩ else none) = _
  rw [if_pos hz, atI_nat hd]; rfl

/-! ### comprehensions over what is known as a map -/
def compA (own : List Nat) (h : D → Fm → Option Fm) (ft : M Bool) (fe : M D) (ds : List D) : M D := fun env1 => compL own h ft fe ds [] (wipeE env1 own)
theorem compM_eq (own : List Nat) (fi : M (List D)) (h : D → Fm → Option Fm) (ft : M Bool) (fe : M D) : compM own fi h ft fe = bnd fi (compA own h ft fe) := rfl
theorem forM_eq (fi : M (List D)) (h : D → Fm → Option Fm) (fb : M Out) : DL.forM fi h fb = bnd fi (forL h fb) := rfl
theorem compL_mapA {α : Type} {own : List Nat} {h : D → Fm → Option Fm} {ft : M Bool} {fe : M D} {ι g : α → D} {env : Fm} : ∀ {xs : List α} {acc : List D},
    (∀ a ∈ xs, ∃ env1 env2 env3, h (ι a) env = some env1 ∧ ft env1 = .ok true env2 ∧ fe env2 = .ok (g a) env3 ∧ wipeE env3 own = env) → acc.length + xs.length ≤ sizeLine →
    compL own h ft fe (xs.map ι) acc env = .ok (.lst (acc ++ xs.map g)) env
  | [], acc, _, _ => by rw [List.map_nil, List.map_nil, List.append_nil]; rfl
  | d :: ds, acc, hh, hz => by
    obtain ⟨env1, env2, env3, h1, h2, h3, h4⟩ := hh d (by simp)
    rw [List.map_cons]
    unfold compL
    rw [List.length_cons] at hz
    simp only [h1, h2, h3]
    rw [if_pos (by omega), h4, compL_mapA (fun d' hd' => hh d' (List.mem_cons_of_mem _ hd')) (by rw [List.length_append, List.length_singleton]; omega)]
    rw [List.map_cons, List.append_assoc]; rfl
theorem compL_filterA {α : Type} {own : List Nat} {h : D → Fm → Option Fm} {ft : M Bool} {fe : M D} {p : α → Bool} {ι g : α → D} {env : Fm} : ∀ {xs : List α} {acc : List D},
    (∀ a ∈ xs, ∃ env1 env2, h (ι a) env = some env1 ∧ ft env1 = .ok (p a) env2 ∧ (p a = false → wipeE env2 own = env) ∧ (p a = true → ∃ env3, fe env2 = .ok (g a) env3 ∧ wipeE env3 own = env)) → acc.length + xs.length ≤ sizeLine →
    compL own h ft fe (xs.map ι) acc env = .ok (.lst (acc ++ (xs.filter p).map g)) env
  | [], acc, _, _ => by rw [List.map_nil, List.filter_nil, List.map_nil, List.append_nil]; rfl
  | d :: ds, acc, hh, hz => by
    obtain ⟨env1, env2, h1, h2, h3, h4⟩ := hh d (by simp)
    rw [List.map_cons]
    unfold compL
    rw [List.length_cons] at hz
    cases hp : p d with
    | false =>
      rw [hp] at h2
      simp only [h1, h2, h3 hp]
      rw [compL_filterA (fun d' hd' => hh d' (List.mem_cons_of_mem _ hd')) (by omega), List.filter_cons_of_neg (by rw [hp]; decide)]
    | true =>
      rw [hp] at h2
      obtain ⟨env3, h5, h6⟩ := h4 hp
      simp only [h1, h2, h5]
      rw [if_pos (by omega), h6, compL_filterA (fun d' hd' => hh d' (List.mem_cons_of_mem _ hd')) (by rw [List.length_append, List.length_singleton]; omega), List.filter_cons_of_pos hp, List.map_cons, List.append_assoc]
      rfl
theorem compA_map {α : Type} {own : List Nat} {h : D → Fm → Option Fm} {ft : M Bool} {fe : M D} {ι : α → D} (g : α → D) {env : Fm} (env0 : Fm) {xs : List α} (he : wipeE env own = env0) (hz : xs.length ≤ sizeLine)
    (hh : ∀ a ∈ xs, ∃ env1 env2 env3, h (ι a) env0 = some env1 ∧ ft env1 = .ok true env2 ∧ fe env2 = .ok (g a) env3 ∧ wipeE env3 own = env0) : compA own h ft fe (xs.map ι) env = .ok (.lst (xs.map g)) env0 := by
  subst he
  unfold compA
  rw [compL_mapA hh (by rw [List.length_nil]; omega)]
  rfl
theorem compA_filter {α : Type} {own : List Nat} {h : D → Fm → Option Fm} {ft : M Bool} {fe : M D} {ι : α → D} (p : α → Bool) (g : α → D) {env : Fm} (env0 : Fm) {xs : List α} (he : wipeE env own = env0) (hz : xs.length ≤ sizeLine)
    (hh : ∀ a ∈ xs, ∃ env1 env2, h (ι a) env0 = some env1 ∧ ft env1 = .ok (p a) env2 ∧ (p a = false → wipeE env2 own = env0) ∧ (p a = true → ∃ env3, fe env2 = .ok (g a) env3 ∧ wipeE env3 own = env0)) : compA own h ft fe (xs.map ι) env = .ok (.lst ((xs.filter p).map g)) env0 := by
  subst he
  unfold compA
  rw [compL_filterA hh (by rw [List.length_nil]; omega)]
  rfl
end DL

/-! The law's numbers. -/
namespace DL
open PySem PySem.Spec PyProof.Rows L2

def intsOf : List D → Option (List Int)
  | [] => some []
  | .int x :: ds => (intsOf ds).map (x :: ·)
  | _ :: _ => none
theorem intsOf_map : ∀ xs : List Int, intsOf (xs.map .int) = some xs
  | [] => rfl
  | x :: xs => by
    show (intsOf (xs.map .int)).map (x :: ·) = _
    rw [intsOf_map xs]; rfl
theorem intsOf_some : ∀ {ds : List D} {xs : List Int}, intsOf ds = some xs → ds = xs.map .int
  | [], xs, h => by cases h; rfl
  | .int x :: ds, xs, h => by
    unfold intsOf at h
    cases e : intsOf ds with
    | none => rw [e] at h; cases h
    | some ys => rw [e] at h; cases h; rw [intsOf_some e]; rfl
  | .non :: _, _, h => by cases h
  | .bl _ :: _, _, h => by cases h
  | .str _ :: _, _, h => by cases h
  | .lst _ :: _, _, h => by cases h
  | .tup _ :: _, _, h => by cases h
  | .dct _ :: _, _, h => by cases h
  | .obj _ _ :: _, _, h => by cases h
  | .cls _ :: _, _, h => by cases h
def one1 (whole salt : Int) : Int := (whole % 2147483629 + 7919 * salt + 1) ^ 3 % 2147483647
def one2 (a k : Int) : Int := (a + 104729 * (k + 1)) * (k + 3) % 2147483629
def one3 (b : Int) : Int := b ^ 5 % 2147483647 * 48271 % 2147483629
def oneN (whole salt k : Int) : Int := one3 (one2 (one1 whole salt) k) / 16
def numsL (whole salt : Int) : List Int → Int → Int → List Int
  | [], _, _ => []
  | s :: ss, k, left => if 10 ^ 18 ≤ whole ∧ 0 < left then left % s :: numsL whole salt ss (k + 1) (left / s) else oneN whole salt k % s :: numsL whole salt ss (k + 1) left
theorem numsL_length (whole salt : Int) : ∀ (ss : List Int) (k left : Int), (numsL whole salt ss k left).length = ss.length
  | [], _, _ => rfl
  | s :: ss, k, left => by
    unfold numsL
    split <;> rw [List.length_cons, List.length_cons, numsL_length whole salt ss]
theorem numsL_lt (whole salt : Int) : ∀ (ss : List Int) (k left : Int) (j : Nat) (s x : Int), (∀ s ∈ ss, 0 < s) → ss[j]? = some s → (numsL whole salt ss k left)[j]? = some x → 0 ≤ x ∧ x < s
  | [], _, _, _, _, _, _, h, _ => by simp at h
  | s :: ss, k, left, 0, s', x, hp, h1, h2 => by
    have hs : 0 < s := hp s (by simp)
    have : s = s' := Option.some.inj h1
    subst this
    unfold numsL at h2
    split at h2
    · have : left % s = x := Option.some.inj h2
      subst this
      exact ⟨Int.emod_nonneg _ (by omega), Int.emod_lt_of_pos _ hs⟩
    · have : oneN whole salt k % s = x := Option.some.inj h2
      subst this
      exact ⟨Int.emod_nonneg _ (by omega), Int.emod_lt_of_pos _ hs⟩
  | s :: ss, k, left, j + 1, s', x, hp, h1, h2 => by
    unfold numsL at h2
    split at h2
    · exact numsL_lt whole salt ss _ _ j s' x (fun s h => hp s (List.mem_cons_of_mem _ h)) h1 h2
    · exact numsL_lt whole salt ss _ _ j s' x (fun s h => hp s (List.mem_cons_of_mem _ h)) h1 h2
def wholeOf (cell : Int) : Int := if -1 - cell > cell then -1 - cell else cell
def numbers (cell salt : Int) (ss : List Int) : List Int := numsL (wholeOf cell) salt ss 0 (wholeOf cell)
def sizesOk (salt : Int) (ss : List Int) : Bool := decide (0 ≤ salt ∧ salt ≤ 100000) && decide (ss.length ≤ 100000) && ss.all fun s => decide (0 < s ∧ s < 1073741824)
def gNumbers : List D → Option D
  | [.int cell, .int salt, .lst sz] => match intsOf sz with
    | some ss => if sizesOk salt ss then some (.lst ((numbers cell salt ss).map .int)) else none
    | none => none
  | _ => none
theorem nums_snoc (whole salt : Int) (ss : List Int) (i : Nat) (s left : Int) (acc : List Int) (k : Int) (hs : ss[i]? = some s) (hk : k = (i : Int))
    (h : acc ++ numsL whole salt (ss.drop i) k left = numsL whole salt ss 0 whole) :
    (10 ^ 18 ≤ whole ∧ 0 < left → (acc ++ [left % s]) ++ numsL whole salt (ss.drop (i + 1)) (k + 1) (left / s) = numsL whole salt ss 0 whole) ∧
    (¬ (10 ^ 18 ≤ whole ∧ 0 < left) → (acc ++ [oneN whole salt k % s]) ++ numsL whole salt (ss.drop (i + 1)) (k + 1) left = numsL whole salt ss 0 whole) := by
  have hd : ss.drop i = s :: ss.drop (i + 1) := by
    obtain ⟨h1, h2⟩ := List.getElem?_eq_some_iff.mp hs
    rw [List.drop_eq_getElem_cons h1, h2]
  rw [hd] at h
  refine ⟨fun hc => ?_, fun hc => ?_⟩
  · rw [← h]
    conv => rhs; unfold numsL
    rw [if_pos hc, List.append_assoc]; rfl
  · rw [← h]
    conv => rhs; unfold numsL
    rw [if_neg hc, List.append_assoc]; rfl
end DL

/-! Running a def at a known frame: each word applied to its frame. -/
namespace DL
open PySem PySem.Spec PyProof.Rows L2
section
variable {α β : Type} {env : Fm}
theorem a_bnd (f : M α) (k : α → M β) : bnd f k env = match f env with
    | .ok a e => k a e
    | .ex x e => .ex x e
    | .no => .no := rfl
theorem a_ret (a : α) : ret a env = .ok a env := rfl
theorem a_nope : (nope : M α) env = .no := rfl
theorem a_lft (o : Option α) : lft o env = match o with
    | some a => .ok a env
    | none => .no := rfl
theorem a_rdV (i : Nat) : rdV i env = match env[i]? with
    | some (.fz _) => .ok (.sl i) env
    | some (.ow _ _) => .ok (.sl i) env
    | _ => .no := rfl
theorem a_getF (i : Nat) : getF i env = match env[i]? with
    | some (.fz d) => .ok d env
    | some (.ow _ d) => .ok d (env.set i (.fz d))
    | _ => .no := rfl
theorem a_lookF (d : D) : look (.fz d) env = .ok d env := rfl
theorem a_lookS (i : Nat) : look (.sl i) env = match env[i]? with
    | some (.fz d) => .ok d env
    | some (.ow _ d) => .ok d env
    | _ => .no := rfl
theorem a_stillF (d : D) : still (.fz d) env = .ok d env := rfl
theorem a_stillS (i : Nat) : still (.sl i) env = match env[i]? with
    | some (.fz d) => .ok d env
    | _ => .no := rfl
theorem a_asRv (f : M D) : asRv f env = bnd f (fun d => ret (.fz d)) env := rfl
theorem a_mop (g : D → D → Option D) (fa fb : M Rv) : mop g fa fb env = bnd fa (fun a => bnd fb fun b => bnd (look a) fun x => bnd (look b) fun y => lft (g x y)) env := rfl
theorem a_seq (f g : M Out) : seqM f g env = match f env with
    | .ok .nx e => g e
    | r => r := rfl
theorem a_ifS (c : M Bool) (a b : M Out) : ifS c a b env = bnd c (fun k => if k then a else b) env := rfl
theorem a_ifM (c : M Bool) (a b : M α) : ifM c a b env = bnd c (fun k => if k then a else b) env := rfl
theorem a_notM (c : M Bool) : DL.notM c env = bnd c (fun k => ret (!k)) env := rfl
theorem a_asB1 (b : Bool) : asB (.bl b) env = .ok b env := rfl
theorem a_andV (f g : M D) : andV f g env = bnd f (fun d => bnd (asB d) fun k => if k then g else ret (.bl false)) env := rfl
theorem a_orV (f g : M D) : orV f g env = bnd f (fun d => bnd (asB d) fun k => if k then ret (.bl true) else g) env := rfl
theorem a_notV (f : M D) : notV f env = bnd f (fun d => bnd (asB d) fun k => ret (.bl (!k))) env := rfl
theorem a_chain (g g' : D → D → Option D) (fa fb fc : M Rv) : chainM g g' fa fb fc env = bnd fa (fun a => bnd fb fun b => bnd (look a) fun x => bnd (look b) fun y => bnd (lft (g x y)) fun z => bnd (asB z) fun k =>
  if k then bnd fc fun c => bnd (look b) fun y => bnd (look c) fun w => lft (g' y w) else ret (.bl false)) env := rfl
theorem a_consM (f : M Rv) (g : M (List Rv)) : consM f g env = bnd f (fun r => bnd g fun rs => ret (r :: rs)) env := rfl
theorem a_looks0 : looks [] env = .ok [] env := rfl
theorem a_looks (r : Rv) (rs : List Rv) : looks (r :: rs) env = bnd (look r) (fun d => bnd (looks rs) fun ds => ret (d :: ds)) env := rfl
theorem a_stills0 : stills [] env = .ok [] env := rfl
theorem a_stills (r : Rv) (rs : List Rv) : stills (r :: rs) env = bnd (still r) (fun d => bnd (stills rs) fun ds => ret (d :: ds)) env := rfl
theorem a_callM (g : List D → Option D) (fa : M (List Rv)) : callM g fa env = bnd fa (fun rs => bnd (looks rs) fun ds => lft (g ds)) env := rfl
theorem a_callS (n : Nat) (g : List D → Option D) (fa : M (List Rv)) : callF n (specF g) fa env = bnd fa (fun rs => bnd (stills rs) fun ds env => if ds.length = n then (match g ds with
        | some c => .ok c env
        | none => .no) else .no) env := by
  rw [callF_spec]; rfl
theorem a_retM (f : M D) : retM f env = bnd f (fun d env => .ok (.rt d) env) env := rfl
theorem a_setM (i : Nat) (f : M D) : setM i f env = bnd f (fun d env => .ok .nx (env.set i (.fz d))) env := rfl
theorem a_setO (i : Nat) (f : M D) : setO i f env = bnd f (fun d env => .ok .nx (env.set i (.ow none d))) env := rfl
theorem a_drpM (f : M D) : drpM f env = bnd f (fun _ env => .ok .nx env) env := rfl
theorem a_appM (i : Nat) (fe : M D) : appM i fe env = if isOwL env i then bnd fe (fun y env => match env[i]? with
  | some (.ow t (.lst ds)) => if ds.length < sizeLine then .ok .nx (env.set i (.ow t (.lst (ds ++ [y])))) else .no
  | _ => .no) env else .no := rfl
theorem a_isOwL (i : Nat) : isOwL env i = match env[i]? with
    | some (.ow _ (.lst _)) => true
    | _ => false := rfl
theorem a_lstM (fa : M (List Rv)) : lstM fa env = bnd fa (fun rs => bnd (stills rs) fun ds => lft (if few ds.length then some (.lst ds) else none)) env := rfl
theorem a_tupM (fa : M (List Rv)) : tupM fa env = bnd fa (fun rs => bnd (stills rs) fun ds => lft (if few ds.length then some (.tup ds) else none)) env := rfl
theorem a_negM (f : M Rv) : negM f env = bnd f (fun a => bnd (look a) fun x => match x with
  | .int i => ret (.int (-i))
  | _ => nope) env := rfl
theorem a_someM (f : M Rv) : someM f env = bnd f (fun a => bnd (look a) fun x => match x with
  | .int i => ret (some i)
  | _ => nope) env := rfl
theorem a_slM (fa : M Rv) (fl fh : M (Option Int)) : slM fa fl fh env = bnd fa (fun a => bnd fl fun l => bnd fh fun h => bnd (look a) fun x => lft (slG x l h)) env := rfl
theorem a_compM (own : List Nat) (fi : M (List D)) (h : D → Fm → Option Fm) (ft : M Bool) (fe : M D) : compM own fi h ft fe env = bnd fi (compA own h ft fe) env := rfl
theorem a_forM (fi : M (List D)) (h : D → Fm → Option Fm) (fb : M Out) : DL.forM fi h fb env = bnd fi (forL h fb) env := rfl
theorem a_asS1 (z : Str) : asS (.str z) env = .ok (chars z) env := rfl
theorem a_asL1 (z : List D) : asL (.lst z) env = .ok z env := rfl
theorem a_asT1 (z : List D) : asT (.tup z) env = .ok z env := rfl
theorem a_rng1 (fa : M (List Rv)) : rng1M fa env = bnd fa (fun rs => bnd (looks rs) fun ds => match ds with
  | [.int j] => if -(2 ^ 62) ≤ j ∧ j < 2 ^ 62 then ret (rngD 0 j.toNat) else nope
  | _ => nope) env := rfl
theorem a_enum (fa : M (List Rv)) : enumM fa env = bnd fa (fun rs => bnd (stills rs) fun ds => match ds with
  | [.lst xs] => ret (enumD xs)
  | _ => nope) env := rfl
theorem a_repM (fa : M D) (fb : M Rv) : repM fa fb env = bnd fa (fun x => bnd fb fun b => bnd (look b) fun k => lft (match x, k with
  | .lst ds, .int k => if -(2 ^ 63) ≤ k ∧ k < 2 ^ 63 ∧ ds.length * k.toNat ≤ sizeLine then some (.lst (List.replicate k.toNat ds).flatten) else none
  | _, _ => none)) env := rfl
theorem a_strM1 (g : D → D → Option D) (fo : M D) (fe : M Rv) : strM1 g fo fe env = bnd fo (fun a => match a with
  | .str x => bnd fe fun r => bnd (look r) fun y => lft (g (.str x) y)
  | _ => nope) env := rfl
theorem a_parM (i j : Nat) (fa : M (List Rv)) : parM i j fa env = bnd fa (fun rs => bnd (stills rs) fun ds env => match ds with
  | [a, b] => .ok .nx ((env.set i (.fz a)).set j (.fz b))
  | _ => .no) env := rfl
theorem a_iT (f g : M α) : (if true = true then f else g) env = f env := rfl
theorem a_iF (f g : M α) : (if false = true then f else g) env = g env := rfl
theorem a_iTr {γ : Type} (f g : γ) : (if true = true then f else g) = f := rfl
theorem a_iFr {γ : Type} (f g : γ) : (if false = true then f else g) = g := rfl
end
theorem few_ok {n : Nat} (h : n ≤ sizeLine) : few n = true := decide_eq_true h
theorem few_s : few 0 = true ∧ few 1 = true ∧ few 2 = true ∧ few 3 = true ∧ few 4 = true ∧ few 5 = true ∧ few 6 = true ∧ few 7 = true ∧ few 8 = true ∧ few 9 = true ∧ few 10 = true ∧ few 11 = true ∧ few 12 = true ∧ few 13 = true ∧ few 14 = true ∧ few 15 = true ∧ few 16 = true ∧ few 17 = true ∧ few 18 = true ∧ few 19 = true ∧ few 20 = true ∧ few 21 = true ∧ few 22 = true ∧ few 23 = true ∧ few 24 = true ∧ few 25 = true ∧ few 26 = true ∧ few 27 = true ∧ few 28 = true ∧ few 29 = true ∧ few 30 = true := by decide
theorem forL_of {h : D → Fm → Option Fm} {fb : M Out} {ds : List D} {env : Fm} {r : Res Out} (hF : forL h fb ds env = r) (P : Nat → Fm → Prop) (h0 : P 0 env)
    (hs : ∀ (j : Nat) (d : D) (e : Fm), ds[j]? = some d → P j e → ∃ e1 e2, h d e = some e1 ∧ (fb e1 = .ok .nx e2 ∨ fb e1 = .ok .ct e2) ∧ P (j + 1) e2) : ∃ e, r = .ok .nx e ∧ P ds.length e := by
  obtain ⟨e, h1, h2⟩ := forL_inv (h := h) (fb := fb) (ds := ds) (i := 0) (env := env) P h0 fun j d e hj hp => by
    rw [Nat.zero_add] at hp ⊢
    exact hs j d e hj hp
  rw [Nat.zero_add] at h2
  exact ⟨e, hF.symm.trans h1, h2⟩
theorem rngD_length (lo : Int) (n : Nat) : (rngD lo n).length = n := by unfold rngD; rw [List.length_map, List.length_range]
theorem rngD_get {lo : Int} {n j : Nat} {d : D} (h : (rngD lo n)[j]? = some d) : j < n ∧ d = .int (lo + (j : Nat)) := by
  unfold rngD at h
  rw [List.getElem?_map] at h
  cases q : (List.range n)[j]? with
  | none => rw [q] at h; cases h
  | some k =>
    rw [q] at h
    cases h
    obtain ⟨h1, h2⟩ := List.getElem?_eq_some_iff.mp q
    rw [List.getElem_range] at h2
    subst h2
    rw [List.length_range] at h1
    exact ⟨h1, rfl⟩

theorem e_slL (ds : List D) (lo hi : Option Int) : slG (.lst ds) lo hi = some (.lst (DL.cutD ds lo hi)) := rfl
theorem e_slT (ds : List D) (lo hi : Option Int) : slG (.tup ds) lo hi = some (.tup (DL.cutD ds lo hi)) := rfl
theorem e_slS {z : Str} (h : z.length ≤ sizeLine) (lo hi : Option Int) : slG (.str z) lo hi = some (.str (Txt.slice z lo hi)) := by
  show (if z.length ≤ sizeLine then some (D.str (Txt.slice z lo hi)) else none) = _
  rw [if_pos h]
theorem cutD_map {α β : Type} (f : α → β) (xs : List α) (lo hi : Option Int) : DL.cutD (xs.map f) lo hi = (DL.cutD xs lo hi).map f := by
  unfold DL.cutD
  rw [List.length_map, List.map_take, List.map_drop]
theorem cutD_length {α : Type} (xs : List α) (lo hi : Option Int) : (DL.cutD xs lo hi).length ≤ xs.length := by
  unfold DL.cutD
  rw [List.length_take, List.length_drop]
  omega
theorem slice_len (z : Str) (lo hi : Option Int) : (Txt.slice z lo hi).length ≤ z.length := by
  rw [← C8.cutS_slice]
  exact cutS_length z lo hi
theorem szk {n : Nat} (h : n ≤ 100000) : n ≤ sizeLine := Nat.le_trans h (by decide)
theorem ixI {ns : List Int} {i : Int} (k : Nat) (hk : k < ns.length) (hi : i = (k : Int)) : ixG (.lst (ns.map .int)) (.int i) = some (.int (ns.getD k 0)) := e_ixL (n := k) hi (by rw [List.getElem?_map, List.getD_eq_getElem?_getD, List.getElem?_eq_getElem hk]; rfl)

theorem a_forN (h : D → Fm → Option Fm) (fb : M Out) {env : Fm} : forL h fb [] env = .ok .nx env := rfl
theorem a_forC (h : D → Fm → Option Fm) (fb : M Out) (d : D) (ds : List D) {env : Fm} : forL h fb (d :: ds) env = match h d env with
    | none => .no
    | some env1 => match fb env1 with
      | .ok .nx e => forL h fb ds e
      | .ok .ct e => forL h fb ds e
      | .ok .bk e => .ok .nx e
      | .ok (.rt v) e => .ok (.rt v) e
      | .ex x e => .ex x e
      | .no => .no := rfl
theorem rep_flat {α : Type} (f : α → D) (x : α) : ∀ n : Nat, (List.replicate n [f x]).flatten = (List.replicate n x).map f
  | 0 => rfl
  | n + 1 => by rw [List.replicate_succ, List.flatten_cons, rep_flat f x n, List.replicate_succ, List.map_cons]; rfl
end DL

/-! Starred items; defs that give a new thing. -/
namespace DL
open PySem PySem.Spec PyProof.Rows L2 StX

/-! ### *e among items -/
def itemsD : D → Option (List D)
  | .tup ds => some ds
  | .lst ds => some ds
  | _ => none
def starM (f : M D) (g : M (List Rv)) : M (List Rv) := bnd f fun d => bnd (lft (itemsD d)) fun ds => bnd g fun rs => ret (ds.map .fz ++ rs)
theorem rVs_fz {K : PySem.W.Frag} {B : Bs} {F H : Hp} {σ : L2.St} {env : Fm} : ∀ {xs : List V} {ds : List D}, DrA K F xs ds → ∀ {vs : List V} {rs : List Rv}, rVs K B F H σ env vs rs → rVs K B F H σ env (xs ++ vs) (ds.map .fz ++ rs)
  | _, _, .nil, _, _, h => h
  | _, _, .cons h t, _, _, h2 => ⟨h, rVs_fz t h2⟩
theorem tr_star {K : PySem.W.Frag} {E : XE} {te : TE} {t : TA} {f : M D} {g : M (List Rv)} (he : Tr K E (rD K) te f) (hr : Tr K E (rVs K) t g) : Tr K E (rVs K) (tStar K te t) (starM f g) := fun B F H σ env Q s hq =>
  he.step s hq fun d env1 v F1 H1 e1 s1 r1 hq1 => by
    unfold bnd at hq1
    cases d with
    | tup ds =>
      have r1 : Dr K F1 v (.tup ds) := r1
      cases r1 with
      | tup h1 h2 =>
        rename_i a xs
        refine ⟨a, xs, rfl, Or.inl (s1.ex.st h1), ?_⟩
        exact hr.step (k := fun rs => ret (ds.map .fz ++ rs)) s1 hq1 fun rs env2 vs F2 H2 e2 s2 r2 hq2 => hq2 (xs ++ vs) F2 H2 (Ex.refl F2) s2 (rVs_fz (h2.mono e2) r2)
    | lst ds =>
      have r1 : Dr K F1 v (.lst ds) := r1
      cases r1 with
      | lst h1 h2 =>
        rename_i a xs
        refine ⟨a, xs, rfl, Or.inr (Or.inl (s1.ex.rd h1)), ?_⟩
        exact hr.step (k := fun rs => ret (ds.map .fz ++ rs)) s1 hq1 fun rs env2 vs F2 H2 e2 s2 r2 hq2 => hq2 (xs ++ vs) F2 H2 (Ex.refl F2) s2 (rVs_fz (h2.mono e2) r2)
    | _ => exact hq1.elim
theorem ja_star {X : Cx} {K : PySem.W.Frag} {E : XE} {e : Expr} {es : List Expr} {te : TE} {t : TA} {f : M D} {g : M (List Rv)} {p : Pos} (ha : JE X K E e te f) (hr : JA X K E es t g) (hs : starEach (.Starred e p :: es) X.env = (true, eval e X.env) :: starEach es X.env := by rfl) :
    JA X K E (.Starred e p :: es) (tStar K te t) (starM f g) := by
  have hK := ha.hK
  subst hK
  exact ⟨rfl, pa_star ha.pe hr.pa hs, tr_star ha.tr hr.tr⟩

/-! ### a def that gives a new thing -/
/-- what is handed stands still; what comes back is new -/
def spN (K : PySem.W.Frag) (n : Nat) (g : List D → Option D) : Sp := fun vs H Q _ => vs.length = n ∧ ∃ (F : Hp) (ds : List D), DrA K F vs ds ∧ Ex F H ∧ ∃ d, g ds = some d ∧
  ∀ v F' H', Ex F F' → SR K (Bc F H vs (ds.map .fz)) F' H' (vs.map some) (ds.map .fz) → rN K (Bc F H vs (ds.map .fz)) F' H' (vs.map some) (ds.map .fz) v d → Q v H'
def PostN (K : PySem.W.Frag) (B : Bs) (F : Hp) (Dn : Ends) : Res Out → Prop
  | .ok (.rt d) env' => ∀ v F' H' σ', Ex F F' → SR K B F' H' σ' env' → rN K B F' H' σ' env' v d → Dn.rt v H'
  | _ => False
def TrN (K : PySem.W.Frag) (t : TS) (f : M Out) : Prop := ∀ B F H σ env Dn, SR K B F H σ env → PostN K B F Dn (f env) → t Dn σ H
structure JNs (X : Cx) (K : PySem.W.Frag) (st : List Stmt) (t : TS) (f : M Out) : Prop where
  hK : X.K = K
  ps : PSs X st t
  tr : TrN K t f
/-- only what goes on is let by -/
def seqN (f g : M Out) : M Out := fun env => match f env with
  | .ok .nx env1 => g env1
  | _ => .no
theorem jns_cons {X : Cx} {K : PySem.W.Frag} {E : XE} {st : Stmt} {rest : List Stmt} {t u : TS} {f g : M Out} (h1 : JS X K E st t f) (h2 : JNs X K rest u g) : JNs X K (st :: rest) (tSeq t u) (seqN f g) := by
  refine ⟨h1.hK, pss_cons h1.ps h2.ps, fun B F H σ env Dn s hq => ?_⟩
  refine h1.tr B F H σ env { Dn with nx := u Dn } s ?_
  unfold seqN at hq
  cases ef : f env with
  | no => rw [ef] at hq; exact hq
  | ex x env' => rw [ef] at hq; exact hq.elim
  | ok o env1 =>
    rw [ef] at hq
    cases o with
    | nx =>
      refine fun F' H' σ' e1 s1 => h2.tr B F' H' σ' env1 Dn s1 ?_
      revert hq
      show PostN K B F Dn (g env1) → PostN K B F' Dn (g env1)
      cases g env1 with
      | no => exact fun h => h
      | ex _ _ => exact fun h => h
      | ok o e => cases o <;> first | exact fun h => h | exact fun h v F'' H'' σ'' e2 => h v F'' H'' σ'' (e1.trans e2)
    | rt d => exact hq.elim
    | bk => exact hq.elim
    | ct => exact hq.elim
theorem jns_ret {X : Cx} {K : PySem.W.Frag} {e : Expr} {te : TE} {f : M D} {pos : Pos} (h : JN X K (fun _ => E0) e te f) : JNs X K [.Return (some e) pos] (tRet te) (retM f) :=
  ⟨h.hK, pss_one (ps_ret h.pe), fun B F H σ env Dn s hq => by
    refine h.tr B F H σ env _ s ?_
    unfold retM bnd at hq
    cases ef : f env with
    | no => rw [ef] at hq; exact hq
    | ex x env' => rw [ef] at hq; exact hq.elim
    | ok d env1 =>
      rw [ef] at hq
      exact fun v F1 H1 e1 s1 r1 => hq v F1 H1 σ e1 s1 r1⟩
/-- return x, x a slot's own thing -/
def retO (i : Nat) : M Out := fun env => match env[i]? with
  | some (.ow _ d) => .ok (.rt d) (env.set i .un)
  | _ => .no
theorem jns_retO {X : Cx} {K : PySem.W.Frag} (i : Nat) {x : Str} {p pos : Pos} (hK : X.K = K := by rfl) (hN : X.N[i]? = some x := by rfl) (hv : Vis X.env.scope x := by first | exact Or.inl rfl | exact Or.inr (Or.inl rfl) | exact Or.inr (Or.inr rfl)) (hd : (x == ("__debug__" : Str)) = false := by decide)
    (hcd : (x == ("__classdict__" : Str)) = false := by decide) : JNs X K [.Return (some (.Name x p)) pos] (tRet (tVar i)) (retO i) :=
  ⟨hK, pss_one (ps_ret (pe_var hN hv hd hcd)), fun B F H σ env Dn s hq => by
    unfold retO at hq
    split at hq
    · rename_i t d hi
      obtain ⟨p, o, h1, h2, h3, h4, h5, h6⟩ := s.ow i t d hi
      refine ⟨.ref p, h1, ?_⟩
      refine hq (.ref p) F H (σ.set i none) (Ex.refl F) (s.setU i) ⟨p, o, rfl, h2, h3, h4, h5, fun z => ?_⟩
      obtain ⟨j, t2, d2, g1, g2⟩ := z
      by_cases hij : i = j
      · subst hij
        rw [List.getElem?_set_self (List.getElem?_eq_some_iff.mp hi).1] at g1
        cases g1
      · rw [List.getElem?_set_ne hij] at g1 g2
        exact s.dis i j t t2 d d2 p hij hi g1 h1 g2
    · exact hq.elim⟩
section
variable {P : Program} {w : World} {K : PySem.W.Frag} {mg : Str → Option Value} {base : Heap}
theorem okN {x qual : Str} {st : Stmt} {f : Addr} {fd : FuncData} {N ps : List Str} {k n : Nat} {g : List D → Option D} {fb : M Out} (Fn : Fun K x qual st f fd) (S : FnScope N ps (defScope st)) (hn : ps.length = n)
    (hbody : ∀ (cdv : Value) (A : Around) (outer : List Env) (s : Shared) (H : Hp) (E : XK), Room k (A.deeper (envOfC qual (defScope st) s.heap.objs.size f cdv)) →
      ∃ t, JNs (cxOf CX0 P w K mg base N qual (defScope st) f cdv A outer s H E).nox K (defBody st) t fb)
    (hG : ∀ ds d, ds.length = n → g ds = some d → ∃ env', fb (ds.map .fz ++ List.replicate (N.length - n) .un) = .ok (.rt d) env') : FnOk P w K mg base CX0 (k + 1) f fd ps (spN K n g) := by
  refine Fn.ok S (fun vs H Q E h => h.1.trans hn.symm) (fun cdv A outer s H vs Q E hr h => ?_)
  obtain ⟨hl, F, ds, hA, hx, d, hg, hq⟩ := h
  obtain ⟨t, ht⟩ := hbody cdv A outer s H E hr
  refine ⟨t, ht.ps, ?_⟩
  have hst : L2.start N vs = vs.map some ++ List.replicate (N.length - n) none := by unfold L2.start; rw [hl]
  rw [hst]
  have sr : SR K (Bc F H vs (ds.map .fz)) F H (vs.map some) (ds.map .fz) := SR.args hx hA rfl rfl
  obtain ⟨env', he⟩ := hG ds d (by rw [← hA.length]; exact hl) hg
  refine ht.tr (Bc F H vs (ds.map .fz)) F H _ (ds.map .fz ++ List.replicate (N.length - n) .un) _ (sr.start _) ?_
  rw [he]
  intro v F' H' σ' e1 s1 r1
  have sf := sr.finish s1
  rw [pars_fz] at sf
  refine hq v F' H' e1 sf ?_
  obtain ⟨p, o, h1, h2, h3, h4, h5, h6⟩ := r1
  exact ⟨p, o, h1, h2, h3, h4, h5, owned_fz⟩
end
structure DfnN (P : Program) (w : World) (K : PySem.W.Frag) (mg : Str → Option Value) (base : Heap) (CX : CXT) (k : Nat) (x : Str) (n : Nat) (g : List D → Option D) : Prop where
  ex : ∃ (f : Addr) (fd : FuncData) (ps : List Str), FnOk P w K mg base CX k f fd ps (spN K n g) ∧ mg x = some (.ref f) ∧ PySem.W.keepIn K (.ref f) = true ∧ Binds K fd ps []
theorem j_callN {X : Cx} {K : PySem.W.Frag} {CX : CXT} {k n : Nat} {g : List D → Option D} {Ek : XK} {x : Str} {e : Expr} {es : List Expr} {ta : TA} {fa : M (List Rv)} {p pos : Pos} (F : DfnN X.prog X.w K X.mg X.base CX k x n g) (hr : Room k X.A) (hx : Passes CX X Ek) (hg : Gl X x) (ha : JA X K (fun _ => Ek) (e :: es) ta fa)
    (hdb : (x == ("__debug__" : Str)) = false := by decide) (he : starEach (e :: es) X.env = (false, eval e X.env) :: starEach es X.env := by rfl) (hpl : (backTo pos (starEach es X.env)).any (·.1) = false := by rfl) :
    JN X K (fun _ => Ek) (.Call (.Name x p) (e :: es) [] pos) (tCall (spN K n g) [] Ek ta) (callS n g fa) := by
  have hK := ha.hK
  subst hK
  obtain ⟨f, fd, ps, h1, h2, h3, h4⟩ := F.ex
  refine ⟨rfl, pe_call h1 hr hg h2 h3 h4 .nil hx ha.pa hdb he hpl, fun B F H σ env Q s hq => ?_⟩
  refine ha.tr.step s hq fun rs env1 vs F1 H1 e1 s1 r1 hq1 => ?_
  obtain ⟨ds, hq2, hds⟩ := Post.stills s1 hq1
  rw [List.append_nil]
  have hA := hds vs r1
  by_cases hn : ds.length = n
  · rw [if_pos hn] at hq2
    cases hgd : g ds with
    | none => rw [hgd] at hq2; exact hq2.elim
    | some d =>
      rw [hgd] at hq2
      refine ⟨by rw [hA.length]; exact hn, F1, ds, hA, s1.ex, d, hgd, fun v F' H' e2 s2 r2 => ?_⟩
      have s3 := s1.after s2 rfl rfl fun p => owned_fz
      refine hq2 v F' H' e2 s3 ?_
      obtain ⟨p, o, g1, g2, g3, g4, g5, g6⟩ := r2
      have g5 : H1 p = none := by
        rcases g5 with z | z
        · exact z
        · exact absurd z owned_fz
      exact ⟨p, o, g1, g2, g3, g4, s1.new_b g5, fun z => by
        obtain ⟨_, ⟨u, z2⟩, _⟩ := s1.owned_b z
        rw [g5] at z2; cases z2⟩
  · rw [if_neg hn] at hq2
    exact hq2.elim
/-- a tuple of the module -/
theorem globT {K : PySem.W.Frag} {mg : Str → Option Value} {x : Str} {a : Addr} {vs : List V} {ds : List D} {o : Obj} {its : Array Value} {n : Nat} (hm : mg x = some (.ref a)) (l : K.lookup a = some o) (hc : o.cls = .type "tuple") (hd : o.data = .seq its n) (hz : its.size ≤ sizeLine) (hv : Vals vs its.toList) (hA : ∀ F, DrA K F vs ds) : GlobD K mg x (.ref a) (.tup ds) :=
  ⟨⟨.ref a, hm, rfl⟩, fun F => .tup (Or.inr ⟨o, its, n, l, hc, hd, hz, hv⟩) (hA F)⟩
end DL

/-! Defs that change their first argument; comprehensions by an invariant; good data. -/
namespace DL
open PySem PySem.Spec PyProof.Rows L2

/-! ### specs of defs that change their first argument -/
def specO (g : D → List D → Option (D × D)) : Fm → Res D
  | .ow (some 0) o :: as => match fzs as with
    | some ds => match g o ds with
      | some (d, o') => .ok d (.ow (some 0) o' :: as)
      | none => .no
    | none => .no
  | _ => .no
theorem specO_noex (g : D → List D → Option (D × D)) : ∀ as x e, specO g as ≠ .ex x e := fun as x e z => by
  unfold specO at z
  split at z
  · split at z
    · split at z <;> cases z
    · cases z
  · cases z
theorem specO_map (g : D → List D → Option (D × D)) (o : D) (ds : List D) : specO g (.ow (some 0) o :: ds.map .fz) = match g o ds with
    | some (d, o') => .ok d (.ow (some 0) o' :: ds.map .fz)
    | none => .no := by
  show (match fzs (ds.map .fz) with
    | some ds' => match g o ds' with
      | some (d, o') => Res.ok d (.ow (some 0) o' :: ds.map .fz)
      | none => .no
    | none => .no) = _
  rw [fzs_map]
theorem tells_O {g : D → List D → Option (D × D)} {n m : Nat} {f : M Out} (h : ∀ o ds d o', ds.length + 1 = n → g o ds = some (d, o') → ∃ rest, f (.ow (some 0) o :: (ds.map .fz ++ List.replicate m .un)) = .ok (.rt d) (.ow (some 0) o' :: rest)) : Tells (specO g) n (defG f m) := fun as hl => by
  cases as with
  | nil => exact Or.inl rfl
  | cons a as =>
    cases a with
    | un => exact Or.inl rfl
    | fz _ => exact Or.inl rfl
    | ow t o =>
      cases t with
      | none => exact Or.inl rfl
      | some k =>
        cases k with
        | succ k => exact Or.inl rfl
        | zero =>
          cases e : fzs as with
          | none => exact Or.inl (by show (match fzs as with | some ds' => _ | none => _) = _; rw [e])
          | some ds =>
            have ea := fzs_some e
            subst ea
            rw [specO_map]
            cases e2 : g o ds with
            | none => exact Or.inl rfl
            | some p =>
              obtain ⟨d, o'⟩ := p
              obtain ⟨rest, he⟩ := h o ds d o' (by rw [List.length_cons, List.length_map] at hl; exact hl) e2
              refine Or.inr ?_
              unfold defG
              rw [List.cons_append, he]
              show Res.ok d (pars (.ow (some 0) o :: ds.map .fz) (.ow (some 0) o' :: rest)) = .ok d (.ow (some 0) o' :: ds.map .fz)
              congr 1
              unfold pars
              apply List.ext_getElem?
              intro i
              rw [List.getElem?_mapIdx]
              cases i with
              | zero => rfl
              | succ i =>
                rw [List.getElem?_cons_succ, List.getElem?_cons_succ, List.getElem?_map]
                cases ds[i]? <;> rfl
theorem a_callO (n : Nat) (g : D → List D → Option (D × D)) (i : Nat) (fa : M (List Rv)) (env : Fm) : callO n (specO g) i fa env = if isOw env i then bnd fa (fun rs => bnd (stills rs) fun ds env => match env[i]? with
    | some (.ow t o) => if ds.length + 1 = n then (match g o ds with
      | some (d, o') => .ok d (env.set i (.ow t o'))
      | none => .no) else .no
    | _ => .no) env else .no := by
  unfold callO
  split
  · congr 1
    funext rs
    congr 1
    funext ds env
    cases hi : env[i]? with
    | none => rfl
    | some x =>
      cases x with
      | un => rfl
      | fz _ => rfl
      | ow t o =>
        simp only []
        by_cases hn : ds.length + 1 = n
        · rw [if_pos hn, if_pos hn, specO_map]
          cases g o ds with
          | none => rfl
          | some p => rfl
        · rw [if_neg hn, if_neg hn]
  · rfl
theorem a_isOw (env : Fm) (i : Nat) : isOw env i = match env[i]? with
  | some (.ow _ _) => true
  | _ => false := rfl
theorem a_setIx (i : Nat) (fk : M Rv) (fe : M D) (env : Fm) : setIxM i fk fe env = bnd fe (fun y => fun env => if isOwL env i then bnd fk (fun r => bnd (look r) fun kd env => match kd, env[i]? with
  | .int k, some (.ow t (.lst ds)) => match ixN ds.length k with
    | some j => .ok .nx (env.set i (.ow t (.lst (ds.set j y))))
    | none => .no
  | _, _ => .no) env else .no) env := rfl
theorem a_starM (f : M D) (g : M (List Rv)) (env : Fm) : starM f g env = bnd f (fun d => bnd (lft (itemsD d)) fun ds => bnd g fun rs => ret (ds.map .fz ++ rs)) env := rfl
theorem a_itemsT (ds : List D) : itemsD (.tup ds) = some ds := rfl
theorem a_itemsL (ds : List D) : itemsD (.lst ds) = some ds := rfl

/-! ### comprehensions by an invariant -/
theorem compL_inv {own : List Nat} {h : D → Fm → Option Fm} {ft : M Bool} {fe : M D} (I : Nat → List D → Fm → Prop) : ∀ (ds : List D) (j : Nat) (acc : List D) (env : Fm), I j acc env → acc.length + ds.length ≤ sizeLine →
    (∀ (i : Nat) (d : D) (acc : List D) (env : Fm), ds[i]? = some d → I (j + i) acc env → ∃ env1 env2 b, h d env = some env1 ∧ ft env1 = .ok b env2 ∧ (b = false → I (j + i + 1) acc (wipeE env2 own)) ∧ (b = true → ∃ y env3, fe env2 = .ok y env3 ∧ I (j + i + 1) (acc ++ [y]) (wipeE env3 own))) →
    ∃ ys env', compL own h ft fe ds acc env = .ok (.lst ys) env' ∧ I (j + ds.length) ys env'
  | [], j, acc, env, h0, _, _ => ⟨acc, env, rfl, h0⟩
  | d :: ds, j, acc, env, h0, hz, hs => by
    obtain ⟨env1, env2, b, e1, e2, hf, ht⟩ := hs 0 d acc env rfl h0
    rw [List.length_cons] at hz
    have hs' : ∀ (i : Nat) (d : D) (acc : List D) (env : Fm), ds[i]? = some d → I (j + 1 + i) acc env → ∃ env1 env2 b, h d env = some env1 ∧ ft env1 = .ok b env2 ∧ (b = false → I (j + 1 + i + 1) acc (wipeE env2 own)) ∧ (b = true → ∃ y env3, fe env2 = .ok y env3 ∧ I (j + 1 + i + 1) (acc ++ [y]) (wipeE env3 own)) := fun i d acc env hd hI => by
      have := hs (i + 1) d acc env hd (by rw [show j + (i + 1) = j + 1 + i by omega]; exact hI)
      rw [show j + (i + 1) = j + 1 + i by omega] at this
      exact this
    have hl : j + 1 + ds.length = j + (d :: ds).length := by rw [List.length_cons]; omega
    cases b with
    | false =>
      obtain ⟨ys, env', g1, g2⟩ := compL_inv I ds (j + 1) acc _ (hf rfl) (by omega) hs'
      refine ⟨ys, env', ?_, by rw [← hl]; exact g2⟩
      unfold compL
      simp only [e1, e2]
      exact g1
    | true =>
      obtain ⟨y, env3, e3, h3⟩ := ht rfl
      obtain ⟨ys, env', g1, g2⟩ := compL_inv I ds (j + 1) (acc ++ [y]) _ h3 (by rw [List.length_append, List.length_singleton]; omega) hs'
      refine ⟨ys, env', ?_, by rw [← hl]; exact g2⟩
      unfold compL
      simp only [e1, e2, e3]
      rw [if_pos (by omega)]
      exact g1
theorem compA_of {own : List Nat} {h : D → Fm → Option Fm} {ft : M Bool} {fe : M D} {ds : List D} {env : Fm} {r : Res D} (hF : compA own h ft fe ds env = r) (I : Nat → List D → Fm → Prop) (h0 : I 0 [] (wipeE env own)) (hz : ds.length ≤ sizeLine)
    (hs : ∀ (i : Nat) (d : D) (acc : List D) (env : Fm), ds[i]? = some d → I i acc env → ∃ env1 env2 b, h d env = some env1 ∧ ft env1 = .ok b env2 ∧ (b = false → I (i + 1) acc (wipeE env2 own)) ∧ (b = true → ∃ y env3, fe env2 = .ok y env3 ∧ I (i + 1) (acc ++ [y]) (wipeE env3 own))) :
    ∃ ys env', r = .ok (.lst ys) env' ∧ I ds.length ys env' := by
  obtain ⟨ys, env', g1, g2⟩ := compL_inv (h := h) (ft := ft) (fe := fe) (own := own) I ds 0 [] _ h0 (by simpa using hz) fun i d acc env hd hI => by
    rw [Nat.zero_add] at hI ⊢
    exact hs i d acc env hd hI
  rw [Nat.zero_add] at g2
  exact ⟨ys, env', hF.symm.trans g1, g2⟩

/-! ### data of a plain kind -/
def gd : Nat → D → Bool
  | 0, _ => false
  | n + 1, d => match d with
    | .non => true
    | .bl _ => true
    | .int _ => true
    | .str x => decide (x.length ≤ 1000) && x.cps.toList.all fun c => decide (c < 0x110000)
    | .lst ds => decide (ds.length ≤ 1000) && ds.all (gd n)
    | .tup ds => decide (ds.length ≤ 1000) && ds.all (gd n)
    | _ => false
theorem gd_mono {n : Nat} : ∀ {d : D}, gd n d = true → gd (n + 1) d = true := by
  induction n with
  | zero => intro d h; cases h
  | succ n ih =>
    intro d h
    unfold gd at h ⊢
    split at h <;> first | rfl | exact h | skip
    · rw [Bool.and_eq_true] at h ⊢
      exact ⟨h.1, List.all_eq_true.mpr fun x hx => ih (List.all_eq_true.mp h.2 x hx)⟩
    · rw [Bool.and_eq_true] at h ⊢
      exact ⟨h.1, List.all_eq_true.mpr fun x hx => ih (List.all_eq_true.mp h.2 x hx)⟩
theorem gd_str {n : Nat} {x : Str} (h : gd n (.str x) = true) : x.length ≤ 1000 ∧ ∀ c ∈ x.cps.toList, c < 0x110000 := by
  cases n with
  | zero => cases h
  | succ n =>
    unfold gd at h
    rw [Bool.and_eq_true] at h
    exact ⟨of_decide_eq_true h.1, fun c hc => of_decide_eq_true (List.all_eq_true.mp h.2 c hc)⟩
theorem gd_tup {n : Nat} {ds : List D} (h : gd (n + 1) (.tup ds) = true) : ds.length ≤ 1000 ∧ ∀ d ∈ ds, gd n d = true := by
  unfold gd at h
  rw [Bool.and_eq_true] at h
  exact ⟨of_decide_eq_true h.1, List.all_eq_true.mp h.2⟩
theorem gd_tup_mk {n : Nat} {ds : List D} (hl : ds.length ≤ 1000) (h : ∀ d ∈ ds, gd n d = true) : gd (n + 1) (.tup ds) = true := by
  unfold gd
  rw [Bool.and_eq_true]
  exact ⟨decide_eq_true hl, List.all_eq_true.mpr h⟩
theorem gd_lst_mk {n : Nat} {ds : List D} (hl : ds.length ≤ 1000) (h : ∀ d ∈ ds, gd n d = true) : gd (n + 1) (.lst ds) = true := by
  unfold gd
  rw [Bool.and_eq_true]
  exact ⟨decide_eq_true hl, List.all_eq_true.mpr h⟩
theorem gd_str_mk {n : Nat} {x : Str} (hl : x.length ≤ 1000) (h : ∀ c ∈ x.cps.toList, c < 0x110000) : gd (n + 1) (.str x) = true := by
  unfold gd
  rw [Bool.and_eq_true]
  exact ⟨decide_eq_true hl, List.all_eq_true.mpr fun c hc => decide_eq_true (h c hc)⟩
end DL

/-! The end: the script that the law is handed is no object of the module's own. -/
namespace DL
open PySem PySem.Spec PyProof.Rows L2
def intV : Value → Bool
  | .int _ _ => true
  | _ => false
/-- a list of whole numbers -/
def intL (o : Obj) : Bool := match o.data with
  | .seq its _ => match its.toList.all intV with
    | true => match o.cls with
      | .type t => t == "list"
      | _ => false
    | false => false
  | _ => false
def noL : PySem.W.Frag → Bool
  | [] => true
  | p :: r => match intL p.2 with
    | true => false
    | false => noL r
theorem noL_look {K : PySem.W.Frag} {a : Addr} {o : Obj} (h : noL K = true) (l : K.lookup a = some o) : intL o = false := by
  induction K with
  | nil => cases l
  | cons p r ih =>
    unfold noL at h
    split at h
    · cases h
    · rename_i hp
      obtain ⟨b, x⟩ := p
      simp only [List.lookup] at l
      split at l
      · cases l; exact hp
      · exact ih h l
theorem vals_int : ∀ {ns : List Int} {us : List Value}, Vals (ns.map V.int) us → us.all intV = true
  | [], _, .nil => rfl
  | n :: ns, _, .cons ⟨t, e⟩ h => by
    subst e
    rw [List.all_cons, vals_int h]; rfl
theorem sql_rd {K : PySem.W.Frag} {H : Hp} {a : Addr} {ns : List Int} (h : noL K = true) (s : SqL K H a (ns.map V.int)) : Rd H a (.lst (ns.map V.int)) := by
  rcases s with s | ⟨o, its, n, l, c, _, d, _, v⟩
  · exact s
  · have := noL_look h l
    unfold intL at this
    rw [d, c] at this
    simp only [vals_int v] at this
    cases this
theorem dra_ints (K : PySem.W.Frag) (F : Hp) : ∀ ns : List Int, DrA K F (ns.map V.int) (ns.map D.int)
  | [] => .nil
  | n :: ns => .cons (.int n) (dra_ints K F ns)
theorem law_sp {K : PySem.W.Frag} {H : Hp} {a : Addr} {ns : List Int} {G : Fm → Res D} {env' : Fm} (s : SqL K H a (ns.map V.int)) (h : noL K = true) (hG : G [.fz (.lst (ns.map .int))] = .ok (.bl true) env') : spD K 1 G [.ref a] H (fun v _ => v = .bl true) fun _ _ _ => False := by
  refine ⟨rfl, H, [.fz (.lst (ns.map .int))], SR.args (ds := [.lst (ns.map .int)]) (Ex.refl H) (.cons (.lst (sql_rd h s) (dra_ints K H ns)) .nil) rfl rfl, ?_⟩
  rw [hG]
  intro b F' H' _ _ r
  have r : Dr K F' b (.bl true) := r
  cases r
  rfl
theorem specF_at {g : List D → Option D} {d e : D} (h : g [d] = some e) : specF g [.fz d] = .ok e [.fz d] := by
  have := specF_map g [d]
  rw [h] at this
  exact this
/-- the goal that k_head leaves, from the law's promise -/
theorem walkD {l : PySem.W.OpenLaw} {n k : Nat} {q : Program} {loose : List Str} {XP : (Str → Option Value) → Heap → Prop} {YP : World → Heap → Prop} {d : DefRec} {K : Params → PySem.W.Frag} {CX : CXT} {G : Fm → Res D} {x : Str}
    (hn : l.most = some n) (hn2 : n ≤ sizeLine) (hdf : d.params.defaults = []) (hr : Room k callerA)
    (hY : ∀ (w : World) (h : Heap), YP w h → (K w.params).In h)
    (hL : ∀ w : World, noL (K w.params) = true)
    (hG : ∀ ns : List Int, ns.length ≤ n → ∃ env', G [.fz (.lst (ns.map .int))] = .ok (.bl true) env')
    (hCX : ∀ (H : Hp) (s : Shared) (e : Value) (s' : Shared), CX [] H s (fun _ _ _ => False) e s' → False)
    (F : ∀ (w : World) (mg : Str → Option Value) (fa : Addr) (h : Heap), (K w.params).In h → h.Ns mainGlobals mg → mg d.name = some (.ref fa) →
      ∃ fd : FuncData, (∀ (s : Shared) (u : Value), BindsTo s fd ⟨[u], []⟩ [(x, u)]) ∧
        ∀ base : Heap, (K w.params).In base → base.Ns mainGlobals mg → FnOk l.prog w (K w.params) mg base CX k fa fd [x] (spD (K w.params) 1 G)) :
    PySem.W.WalkO q loose XP YP l.row.toRowW d [] (fun f vs => PySem.call f vs) :=
  walk_of (K := K) (CX := fun _ => CX) (sp := fun w => spD (K w.params) 1 G) hn hn2 hdf hr hY F (fun w H a ns h1 _ h3 => by
    obtain ⟨env', e⟩ := hG ns h1
    exact law_sp h3 (hL w) e) fun _ H s e s' => hCX H s e s'
end DL

/-! What many laws share: names, whole numbers, pools, plain data. -/
namespace DL
open PySem PySem.Spec PyProof.Rows L2

/-! ### names, whole numbers -/
def letterB (c : Nat) : Bool := decide (c ∈ ("abcdefghijklmnopqrstuvwxyz" : Str).cps.toList)
def nameS (x : Str) : Bool := decide (1 ≤ x.length ∧ x.length ≤ 8) && x.cps.toList.all letterB
def nameB : D → Bool
  | .str x => nameS x
  | _ => false
def isName : D → Option Bool
  | .str x => if x.length ≤ sizeLine then some (nameS x) else none
  | d => (tyn d).map fun _ => false
def gIsName : List D → Option D
  | [d] => (isName d).map .bl
  | _ => none
def intB (d : D) (lo hi : Int) : Bool := match d with
  | .int i => decide (lo ≤ i) && decide (i ≤ hi)
  | _ => false
def gIsInteger : List D → Option D
  | [.int i, .int lo, .int hi] => some (.bl (decide (lo ≤ i) && decide (i ≤ hi)))
  | [.obj _ _, _, _] => none
  | [.cls _, _, _] => none
  | [.int _, _, _] => none
  | [_, _, _] => some (.bl false)
  | _ => none

/-! ### == [] and == () -/
theorem gd_lay : ∀ (n : Nat) (d : D), gd n d = true → (pd d).canLay0 = true ∧ (pd d).depth ≤ n
  | 0, _, h => by cases h
  | n + 1, d, h => by
    have all : ∀ ds : List D, (∀ d ∈ ds, gd n d = true) → PyData.canLayAll0 (pds ds) = true ∧ PyData.depthAll (pds ds) ≤ n := fun ds => by
      induction ds with
      | nil => intro _; rw [pds, PyData.canLayAll0, PyData.depthAll]; exact ⟨rfl, Nat.zero_le _⟩
      | cons d ds ih =>
        intro h
        obtain ⟨h1, h2⟩ := gd_lay n d (h d (by simp))
        obtain ⟨h3, h4⟩ := ih fun x hx => h x (List.mem_cons_of_mem _ hx)
        rw [pds, PyData.canLayAll0, PyData.depthAll, h1, h3]
        exact ⟨rfl, by omega⟩
    unfold gd at h
    split at h
    · rw [pd, PyData.canLay0, PyData.depth]; exact ⟨rfl, Nat.zero_le _⟩
    · rw [pd, PyData.canLay0, PyData.depth]; exact ⟨rfl, Nat.zero_le _⟩
    · rw [pd, PyData.canLay0, PyData.depth]; exact ⟨rfl, Nat.zero_le _⟩
    · rename_i x
      rw [Bool.and_eq_true] at h
      rw [pd, PyData.canLay0, PyData.depth]
      refine ⟨?_, Nat.zero_le _⟩
      unfold PyData.strOk
      rw [← Array.all_toList]
      exact h.2
    · rw [Bool.and_eq_true] at h
      obtain ⟨h1, h2⟩ := all _ (List.all_eq_true.mp h.2)
      rw [pd, PyData.canLay0, PyData.depth]
      exact ⟨h1, by omega⟩
    · rw [Bool.and_eq_true] at h
      obtain ⟨h1, h2⟩ := all _ (List.all_eq_true.mp h.2)
      rw [pd, PyData.canLay0, PyData.depth]
      exact ⟨h1, by omega⟩
    · cases h
theorem gd_shp {n : Nat} {d : D} (h : gd n d = true) (hn : n ≤ 64) : shp d = true := by
  obtain ⟨h1, h2⟩ := gd_lay n d h
  unfold shp SeqAt.shaped
  rw [h1, decide_eq_true (by omega : (pd d).depth ≤ 64)]
  rfl
theorem shp_nilL : shp (.lst []) = true := by decide +kernel
theorem shp_nilT : shp (.tup []) = true := by decide +kernel
theorem e_nilL {ds : List D} (h : shp (.lst ds) = true) : eqG (.lst ds) (.lst []) = some (.bl ds.isEmpty) := by
  show (if shp (.lst ds) && shp (.lst []) then some (D.bl (PyData.eqv (pd (.lst ds)) (pd (.lst [])))) else none) = _
  rw [h, shp_nilL]
  cases ds with
  | nil => rfl
  | cons d ds => rw [pd, pds, pd, pds]; rfl
theorem e_nenilL {ds : List D} (h : shp (.lst ds) = true) : neG (.lst ds) (.lst []) = some (.bl (!ds.isEmpty)) := by
  show (if shp (.lst ds) && shp (.lst []) then some (D.bl (!PyData.eqv (pd (.lst ds)) (pd (.lst [])))) else none) = _
  rw [h, shp_nilL]
  cases ds with
  | nil => rfl
  | cons d ds => rw [pd, pds, pd, pds]; rfl
theorem e_nilT {ds : List D} (h : shp (.tup ds) = true) : eqG (.tup ds) (.tup []) = some (.bl ds.isEmpty) := by
  show (if shp (.tup ds) && shp (.tup []) then some (D.bl (PyData.eqv (pd (.tup ds)) (pd (.tup [])))) else none) = _
  rw [h, shp_nilT]
  cases ds with
  | nil => rfl
  | cons d ds => rw [pd, pds, pd, pds]; rfl
theorem shp_nes (ds : List D) : shp (.lst []) = true := shp_nilL
theorem shp_ints (ns : List Int) : shp (.lst (ns.map .int)) = true := by
  have e : ∀ ns : List Int, pds (ns.map D.int) = ns.map PyData.int := fun ns => by
    induction ns with
    | nil => rw [List.map_nil, pds]; rfl
    | cons c cs ih => rw [List.map_cons, pds, pd, ih]; rfl
  unfold shp SeqAt.shaped
  rw [pd, e]
  have h1 : PyData.canLay0 (.list (ns.map PyData.int)) = true := by
    rw [PyData.canLay0]
    clear e
    induction ns with
    | nil => rw [List.map_nil, PyData.canLayAll0]
    | cons c cs ih => rw [List.map_cons, PyData.canLayAll0, ih, PyData.canLay0]; rfl
  have h2 : PyData.depthAll (ns.map PyData.int) = 0 := by
    clear e h1
    induction ns with
    | nil => rw [List.map_nil, PyData.depthAll]
    | cons c cs ih => rw [List.map_cons, PyData.depthAll, ih, PyData.depth]; rfl
  rw [h1, PyData.depth, h2]
  decide
theorem shp_chars (cs : List Nat) (h : ∀ c ∈ cs, c < 0x110000) : shp (.lst (cs.map fun c => D.str ⟨#[c]⟩)) = true := by
  have e : ∀ cs : List Nat, pds (cs.map fun c => D.str ⟨#[c]⟩) = cs.map fun c => PyData.str ⟨#[c]⟩ := fun cs => by
    induction cs with
    | nil => rw [List.map_nil, pds]; rfl
    | cons c cs ih => rw [List.map_cons, pds, pd, ih]; rfl
  unfold shp SeqAt.shaped
  rw [pd, e]
  have h1 : PyData.canLay0 (.list (cs.map fun c => PyData.str ⟨#[c]⟩)) = true := by
    rw [PyData.canLay0]
    clear e
    induction cs with
    | nil => rw [List.map_nil, PyData.canLayAll0]
    | cons c cs ih =>
      rw [List.map_cons, PyData.canLayAll0, ih fun c hc => h c (List.mem_cons_of_mem _ hc), PyData.canLay0]
      have := h c (by simp)
      unfold PyData.strOk
      simp [this]
  have h2 : PyData.depthAll (cs.map fun c => PyData.str ⟨#[c]⟩) = 0 := by
    clear e h h1
    induction cs with
    | nil => rw [List.map_nil, PyData.depthAll]
    | cons c cs ih => rw [List.map_cons, PyData.depthAll, ih, PyData.depth]; rfl
  rw [h1, PyData.depth, h2]
  decide

/-! ### x in (.., ..) of texts -/
def strsL : List D → Option (List Str)
  | [] => some []
  | .str x :: ds => (strsL ds).map (x :: ·)
  | _ :: _ => none
theorem strsL_some : ∀ {ds : List D} {ws : List Str}, strsL ds = some ws → ds = ws.map .str
  | [], ws, h => by cases h; rfl
  | .str x :: ds, ws, h => by
    unfold strsL at h
    cases e : strsL ds with
    | none => rw [e] at h; cases h
    | some es => rw [e] at h; cases h; rw [strsL_some e]; rfl
  | .non :: _, _, h => by cases h
  | .bl _ :: _, _, h => by cases h
  | .int _ :: _, _, h => by cases h
  | .lst _ :: _, _, h => by cases h
  | .tup _ :: _, _, h => by cases h
  | .dct _ :: _, _, h => by cases h
  | .obj _ _ :: _, _, h => by cases h
  | .cls _ :: _, _, h => by cases h
theorem inF_str (x : Str) (ws : List Str) : inF (.str x) (ws.map .str) = some (decide (x ∈ ws)) := by
  unfold inF
  have h1 : (ws.map D.str).all flat = true := by
    rw [List.all_eq_true]
    intro d hd
    obtain ⟨w, _, rfl⟩ := List.mem_map.mp hd
    rfl
  rw [h1]
  show some ((ws.map D.str).any fun y => eqF y (.str x)) = _
  congr 1
  rw [List.any_map]
  by_cases h : x ∈ ws
  · rw [decide_eq_true h, List.any_eq_true]
    exact ⟨x, h, by show eqF (.str x) (.str x) = true; simp [eqF]⟩
  · rw [decide_eq_false h, List.any_eq_false]
    intro y hy
    show ¬ eqF (.str y) (.str x) = true
    intro z
    have : y = x := by simpa [eqF] using z
    subst this
    exact h hy
theorem e_inT {x : Str} {ds : List D} {ws : List Str} (h : strsL ds = some ws) : inA (.str x) (.tup ds) = some (.bl (decide (x ∈ ws))) := by
  rw [strsL_some h]
  show ((inL (.str x) (ws.map .str)).map D.bl) = _
  unfold inL
  rw [inF_str]
  rfl
theorem e_inL {x : Str} {ds : List D} {ws : List Str} (h : strsL ds = some ws) : inA (.str x) (.lst ds) = some (.bl (decide (x ∈ ws))) := by
  rw [strsL_some h]
  show ((inL (.str x) (ws.map .str)).map D.bl) = _
  unfold inL
  rw [inF_str]
  rfl

/-! ### pools: a list of numbers and a place in it -/
def poolD (ns : List Int) (k : Nat) : D := .lst [.lst (ns.map .int), .int k]
def gPool : List D → Option D
  | [.int cell, .int salt, .int many] => if 0 ≤ salt ∧ salt ≤ 100000 ∧ 0 ≤ many ∧ many ≤ 1000 then some (poolD (numbers cell salt (List.replicate many.toNat 420)) 0) else none
  | _ => none
def drawn (ns : List Int) (k : Nat) (m : Int) : Int := if k < ns.length then ns.getD k 0 % m else 0
theorem drawn_lo (ns : List Int) (k : Nat) {m : Int} (h : 0 < m) : 0 ≤ drawn ns k m := by
  unfold drawn
  split
  · exact Int.emod_nonneg _ (by omega)
  · exact Int.le_refl 0
theorem drawn_hi (ns : List Int) (k : Nat) {m : Int} (h : 0 < m) : drawn ns k m < m := by
  unfold drawn
  split
  · exact Int.emod_lt_of_pos _ h
  · exact h
/-- the pool's numbers and its place -/
def poolOf : D → Option (List Int × Nat)
  | .lst [.lst ds, .int k] => match intsOf ds with
    | some ns => if 0 ≤ k then some (ns, k.toNat) else none
    | none => none
  | _ => none
theorem poolOf_mk (ns : List Int) (k : Nat) : poolOf (poolD ns k) = some (ns, k) := by
  unfold poolOf poolD
  simp only [intsOf_map]
  rw [if_pos (Int.natCast_nonneg k)]
  rfl
theorem poolOf_some {o : D} {ns : List Int} {k : Nat} (h : poolOf o = some (ns, k)) : o = poolD ns k := by
  unfold poolOf at h
  split at h
  · rename_i ds j
    split at h
    · rename_i ms e
      split at h
      · rename_i hj
        cases h
        rw [intsOf_some e]
        unfold poolD
        rw [Int.toNat_of_nonneg hj]
      · cases h
    · cases h
  · cases h
def gDraw : D → List D → Option (D × D) := fun o ds => match poolOf o, ds with
  | some (ns, k), [.int m] => if 0 < m then some (.int (drawn ns k m), poolD ns (k + 1)) else none
  | _, _ => none
theorem gDraw_mk (ns : List Int) (k : Nat) {m : Int} (h : 0 < m) : gDraw (poolD ns k) [.int m] = some (.int (drawn ns k m), poolD ns (k + 1)) := by
  unfold gDraw
  rw [poolOf_mk]
  simp only [h, if_true]
/-- one of some -/
def gPick : D → List D → Option (D × D) := fun o ds => match poolOf o, ds with
  | some (ns, k), [.lst xs] => match xs[(drawn ns k xs.length).toNat]? with
    | some x => if 0 < xs.length then some (x, poolD ns (k + 1)) else none
    | none => none
  | _, _ => none
theorem gPick_mk (ns : List Int) (k : Nat) {xs : List D} (h : 0 < xs.length) : ∃ x, x ∈ xs ∧ gPick (poolD ns k) [.lst xs] = some (x, poolD ns (k + 1)) := by
  have h1 := drawn_lo ns k (m := xs.length) (by omega)
  have h2 := drawn_hi ns k (m := xs.length) (by omega)
  have h3 : (drawn ns k xs.length).toNat < xs.length := by omega
  refine ⟨xs[(drawn ns k xs.length).toNat], List.getElem_mem h3, ?_⟩
  unfold gPick
  rw [poolOf_mk]
  simp only [List.getElem?_eq_getElem h3, h, if_true]
/-! ### the texts' signs -/
def lowC (z : Str) : Prop := ∀ c ∈ z.cps.toList, c < 0x110000
theorem lowC_app {x y : Str} (hx : lowC x) (hy : lowC y) : lowC (x ++ y) := fun c hc => by
  have : (x ++ y).cps.toList = x.cps.toList ++ y.cps.toList := by rw [Str.cps_append, Array.toList_append]
  rw [this] at hc
  rcases List.mem_append.mp hc with h | h
  · exact hx c h
  · exact hy c h
theorem lowC_slice {z : Str} (h : lowC z) (lo hi : Option Int) : lowC (Txt.slice z lo hi) := fun c hc => by
  rw [← C8.cutS_slice] at hc
  have hc : c ∈ ((z.cps.toList.drop (HT.sIx z.length 0 lo)).take (HT.sIx z.length z.length hi - HT.sIx z.length 0 lo)) := by simpa [cutS] using hc
  exact h c (List.mem_of_mem_drop (List.mem_of_mem_take hc))
theorem lowC_join : ∀ (ys : List Str), (∀ y ∈ ys, lowC y) → lowC (Str.join "" ys)
  | [], _ => fun c hc => by
    have : (Str.join "" [] : Str).cps.toList = [] := rfl
    rw [this] at hc; cases hc
  | [y], h => h y (by simp)
  | x :: y :: r, h => by
    show lowC (x ++ "" ++ Str.join "" (y :: r))
    refine lowC_app (lowC_app (h x (by simp)) ?_) (lowC_join (y :: r) fun z hz => h z (List.mem_cons_of_mem _ hz))
    intro c hc
    have : (("" : Str)).cps.toList = [] := by decide +kernel
    rw [this] at hc; cases hc
theorem sum_one {α : Type} (f : α → Str) (h : ∀ a, (f a).length = 1) : ∀ xs : List α, ((xs.map f).map (·.length)).sum = xs.length
  | [] => rfl
  | x :: xs => by rw [List.map_cons, List.map_cons, List.sum_cons, sum_one f h xs, h, List.length_cons]; omega
/-- ''.join of single signs -/
theorem join_signs {ys : List D} (h : ∀ y ∈ ys, ∃ c, c < 0x110000 ∧ y = .str ⟨#[c]⟩) (hl : ys.length ≤ 1000) : ∃ z : Str, joinG (.str "") (.lst ys) = some (.str z) ∧ z.length = ys.length ∧ lowC z := by
  have hc : ∃ cs : List Nat, ys = cs.map (fun c => D.str ⟨#[c]⟩) ∧ ∀ c ∈ cs, c < 0x110000 := by
    clear hl
    induction ys with
    | nil => exact ⟨[], rfl, fun _ h => by cases h⟩
    | cons y ys ih =>
      obtain ⟨c, h1, rfl⟩ := h y (by simp)
      obtain ⟨cs, rfl, h2⟩ := ih fun z hz => h z (List.mem_cons_of_mem _ hz)
      exact ⟨c :: cs, rfl, fun d hd => by rcases List.mem_cons.mp hd with rfl | z; exact h1; exact h2 d z⟩
  obtain ⟨cs, rfl, hcs⟩ := hc
  rw [List.length_map] at hl
  have h0 : (("" : Str)).length = 0 := by decide +kernel
  refine ⟨Txt.join "" (cs.map fun c => ⟨#[c]⟩), ?_, ?_, ?_⟩
  · show (strsOf _).bind _ = _
    rw [strsOf_map]
    show (if _ then _ else _) = _
    rw [if_pos]
    rw [sum_one _ (fun _ => rfl), h0]
    omega
  · show (Builtin.Str.glued _ _).length = _
    rw [PySem.size_glued, sum_one _ (fun _ => rfl), h0, Nat.mul_zero, Nat.add_zero, List.length_map]
  · rw [TL.join_eq]
    refine lowC_join _ fun y hy => ?_
    obtain ⟨c, h1, rfl⟩ := List.mem_map.mp hy
    intro d hd
    have : d = c := by simpa using hd
    rw [this]; exact hcs c h1
theorem a_callSN (n : Nat) (g : List D → Option D) (fa : M (List Rv)) (env : Fm) : callS n g fa env = bnd fa (fun rs => bnd (stills rs) fun ds env => if ds.length = n then (match g ds with
        | some c => .ok c env
        | none => .no) else .no) env := rfl
theorem forL_ofE {h : D → Fm → Option Fm} {fb : M Out} {ds : List D} {env : Fm} {r : Res Out} (hF : forL h fb ds env = r) (P : Nat → Fm → Prop) (h0 : P 0 env)
    (hs : ∀ (j : Nat) (d : D) (e : Fm), ds[j]? = some d → P j e → ∃ e1, h d e = some e1 ∧ ∃ e2, fb e1 = .ok .nx e2 ∧ P (j + 1) e2) : ∃ e, r = .ok .nx e ∧ P ds.length e :=
  forL_of hF P h0 fun j d e hj hp => by
    obtain ⟨e1, h1, e2, h2, h3⟩ := hs j d e hj hp
    exact ⟨e1, e2, h1, Or.inl h2, h3⟩
theorem vals_nil : Vals [] [] := .nil
theorem vals_str {x : Str} {t : Tok} {xs : List V} {us : List Value} (h : Vals xs us) : Vals (.str x :: xs) (.str x t :: us) := .cons ⟨t, rfl⟩ h
/-- a constant that lies at an address -/
theorem j_globT {X : Cx} {K : PySem.W.Frag} {E : XE} {x : Str} {d : D} {pos : Pos} (g : ∃ a : Addr, GlobD K X.mg x (.ref a) d) (hg : Gl X x) (hK : X.K = K := by rfl) (hd : (x == ("__debug__" : Str)) = false := by decide) : JE X K E (.Name x pos) (tC (.ref g.choose)) (ret d) := j_glob g.choose_spec hg hK hd
theorem gName_of {n : Nat} {d : D} (h : gd n d = true) : gIsName [d] = some (.bl (nameB d)) := by
  cases n with
  | zero => cases h
  | succ n =>
    cases d with
    | str x =>
      have := (gd_str h).1
      show Option.map D.bl (if x.length ≤ sizeLine then some (nameS x) else none) = _
      rw [if_pos (szk (by omega))]; rfl
    | dct _ => cases h
    | obj _ _ => cases h
    | cls _ => cases h
    | _ => rfl
theorem compA_mapD {own : List Nat} {h : D → Fm → Option Fm} {ft : M Bool} {fe : M D} (g : D → D) {env : Fm} (env0 : Fm) {xs : List D} (he : wipeE env own = env0) (hz : xs.length ≤ sizeLine)
    (hh : ∀ a ∈ xs, ∃ env1 env2 env3, h a env0 = some env1 ∧ ft env1 = .ok true env2 ∧ fe env2 = .ok (g a) env3 ∧ wipeE env3 own = env0) : compA own h ft fe xs env = .ok (.lst (xs.map g)) env0 := by
  have := compA_map (ι := id) (own := own) (h := h) (ft := ft) (fe := fe) g (env := env) env0 (xs := xs) he hz hh
  rw [List.map_id] at this
  exact this
theorem compA_filterD {own : List Nat} {h : D → Fm → Option Fm} {ft : M Bool} {fe : M D} (p : D → Bool) (g : D → D) {env : Fm} (env0 : Fm) {xs : List D} (he : wipeE env own = env0) (hz : xs.length ≤ sizeLine)
    (hh : ∀ a ∈ xs, ∃ env1 env2, h a env0 = some env1 ∧ ft env1 = .ok (p a) env2 ∧ (p a = false → wipeE env2 own = env0) ∧ (p a = true → ∃ env3, fe env2 = .ok (g a) env3 ∧ wipeE env3 own = env0)) : compA own h ft fe xs env = .ok (.lst ((xs.filter p).map g)) env0 := by
  have := compA_filter (ι := id) (own := own) (h := h) (ft := ft) (fe := fe) p g (env := env) env0 (xs := xs) he hz hh
  rw [List.map_id] at this
  exact this
end DL

namespace K03
open PySem PySem.Spec PyProof.Rows L2 DL
def topS (i : Nat) : Stmt := PySem.Challenge.pw_pulledout_k03_items_and_steps.main.body.getD i (.Pass ⟨0, 0, 0, 0⟩)

structure Txt (K : PySem.W.Frag) (mg : Str → Option Value) : Prop where
  z_len : mg "len" = none
  z_isinstance : mg "isinstance" = none
  z_all : mg "all" = none
  z_max : mg "max" = none
  z_str : mg "str" = none
  z_int : mg "int" = none
  z_bool : mg "bool" = none
  z_range : mg "range" = none
  z_enumerate : mg "enumerate" = none
  z_tuple : mg "tuple" = none
  z_list : mg "list" = none
  gLETTERS : GlobD K mg "LETTERS" (.str "abcdefghijklmnopqrstuvwxyz") (.str "abcdefghijklmnopqrstuvwxyz")
  gMOST_LETTERS : GlobD K mg "MOST_LETTERS" (.int 8) (.int 8)
  gMOST_OUT : GlobD K mg "MOST_OUT" (.int 4) (.int 4)
  gLOOK : GlobD K mg "LOOK" (.str "look") (.str "look")
  gHOLD : GlobD K mg "HOLD" (.str "hold") (.str "hold")
  gTRY : GlobD K mg "TRY" (.str "try") (.str "try")
  gLET : GlobD K mg "LET" (.str "let") (.str "let")
  gENTER : GlobD K mg "ENTER" (.str "enter") (.str "enter")
  gLEAVE : GlobD K mg "LEAVE" (.str "leave") (.str "leave")
  gTOUCH : GlobD K mg "TOUCH" (.str "touch") (.str "touch")
  gUSE : GlobD K mg "USE" (.str "use") (.str "use")
  gLOCK : GlobD K mg "LOCK" (.str "lock") (.str "lock")
  gUNLOCK : GlobD K mg "UNLOCK" (.str "unlock") (.str "unlock")
  gSTART : GlobD K mg "START" (.str "start") (.str "start")
  gASK : GlobD K mg "ASK" (.str "ask") (.str "ask")
  gOUT : GlobD K mg "OUT" (.str "out") (.str "out")
  gMARK : GlobD K mg "MARK" (.str "mark") (.str "mark")
  gWAIT : GlobD K mg "WAIT" (.str "wait") (.str "wait")
  gEMPTY : GlobD K mg "EMPTY" (.str "empty") (.str "empty")
  gDOWN : GlobD K mg "DOWN" (.str "down") (.str "down")
  gBAR : GlobD K mg "BAR" (.str "bar") (.str "bar")
  gFORGET : GlobD K mg "FORGET" (.str "forget") (.str "forget")
  gIDLE : GlobD K mg "IDLE" (.str "idle") (.str "idle")
  hOPENING : ∃ a, GlobD K mg "OPENING" (.ref a) (.tup [.str "look", .str "hold", .str "try"])
  hPLAIN : ∃ a, GlobD K mg "PLAIN" (.ref a) (.tup [.str "let", .str "enter", .str "leave", .str "touch", .str "use", .str "lock", .str "unlock"])
  hALONE : ∃ a, GlobD K mg "ALONE" (.ref a) (.tup [.str "out", .str "wait", .str "empty", .str "down", .str "let", .str "lock", .str "unlock"])
  hABOUT : ∃ a, GlobD K mg "ABOUT" (.ref a) (.tup [.str "bar", .str "forget", .str "idle"])
  hUSING : ∃ a, GlobD K mg "USING" (.ref a) (.tup [.str "hold", .str "enter", .str "leave", .str "ask", .str "use", .str "start"])
  hPULLING : ∃ a, GlobD K mg "PULLING" (.ref a) (.tup [.str "mark", .str "wait", .str "empty", .str "bar", .str "forget", .str "idle", .str "let"])
def wOPENING : List Str := ["look", "hold", "try"]
def wPLAIN : List Str := ["let", "enter", "leave", "touch", "use", "lock", "unlock"]
def wALONE : List Str := ["out", "wait", "empty", "down", "let", "lock", "unlock"]
def wABOUT : List Str := ["bar", "forget", "idle"]
def wUSING : List Str := ["hold", "enter", "leave", "ask", "use", "start"]
def wPULLING : List Str := ["mark", "wait", "empty", "bar", "forget", "idle", "let"]
section
variable {P : Program} {w : World} {K : PySem.W.Frag} {mg : Str → Option Value} {base : Heap}

abbrev G_is_name := specF gIsName
abbrev s_is_name : Stmt := topS 3
theorem sc_is_name : FnScope ["value", "letter"] ["value"] (defScope s_is_name) := ⟨rfl, rfl, rfl, by decide +kernel, rfl, by decide +kernel, by decide +kernel⟩
theorem ok_is_name {f : Addr} {fd : FuncData} (F : Fun K "is_name" "is_name" s_is_name f fd) (T : Txt K mg) : FnOk P w K mg base CX0 1 f fd ["value"] (spD K 1 G_is_name) := by
  refine okD F sc_is_name rfl (fun cdv A outer s H E hr => ⟨_, (jss_cons (js_if (JW.jt (jw_or (jt_not (jt_val (j_callB call_isi cd_isi boot_isinstance T.z_isinstance (by rfl) (ja_cons (jr 0) (ja_cons (JE.rv (j_bty boot_str T.z_str (by rfl))) ja_nil))))) (jw_or1 (jt_not (jt_chain op_le od_le op_le od_le (JE.rv j_int) (JE.rv (j_callB call_len cd_len PySem.boot_len T.z_len (by rfl) (ja_cons (jr 0) ja_nil))) (JE.rv (j_glob T.gMOST_LETTERS (by rfl)))))))) (jss_one (js_ret j_bl)) jss_nil)
      (jss_one (js_ret (j_callB (cr_all rfl) cd_all boot_all T.z_all (by rfl) (ja_cons (JE.rv (JN.je (j_lc (own := [("letter", 1)]) rfl sc_is_name.nd (blkOk_by (N := ["value", "letter"]) (sc := defScope s_is_name) (by decide +kernel)) (ji_str (jv 0)) (fun _ _ _ _ _ => (jg_name (i := 1) sc_is_name.nd rfl (by first | exact Or.inl rfl | exact Or.inr rfl) (by decide))) (fun _ _ _ _ _ => jts_nil) (fun _ _ _ _ _ => (j_cmp (op_inA (u65 hr)) od_inA (jr 1) (JE.rv (j_glob T.gLETTERS (by rfl))) (by rfl)))))) ja_nil)))))⟩) ?hG ?hne
  case hG =>
    refine tells_F (m := 1) fun ds d hl hg => ?_
    match ds, hl with
    | [x], _ =>
      cases x with
      | str z =>
        have hg : Option.map D.bl (if z.length ≤ sizeLine then some (decide (1 ≤ z.length ∧ z.length ≤ 8) && z.cps.toList.all letterB) else none) = some d := hg
        by_cases hz : z.length ≤ sizeLine
        · rw [if_pos hz] at hg
          cases hg
          simp -implicitDefEqProofs only [List.map, List.replicate, List.append, List.cons_append, List.nil_append, List.length, a_bnd, a_ret, a_nope, a_lft, a_rdV, a_getF, a_lookF, a_lookS, a_stillF, a_stillS, a_asRv, a_mop, a_seq, a_ifS, a_ifM, a_notM, a_asB1, a_andV, a_orV, a_notV, a_chain, a_consM, a_looks0, a_looks, a_stills0, a_stills, a_callM, a_callS, a_retM, a_setM, a_setO, a_drpM, a_appM, a_isOwL, a_lstM, a_tupM, a_negM, a_someM, a_slM, a_compM, a_forM, a_asS1, a_asL1, a_asT1, a_rng1, a_enum, a_repM, a_strM1, a_parM, a_iT, a_iF, a_iTr, a_iFr, if_true, if_false, Bool.false_eq_true, Bool.true_eq_false, not_true, not_false_iff, isiG_str, isiG_int, isiG_bool, isiG_tuple, isiG_list, isiG_dict, few_s, List.getElem?_cons_zero, List.getElem?_cons_succ, List.getElem?_nil, List.set_cons_zero, List.set_cons_succ, e_add, e_sub, e_lt, e_le, e_gt, e_ge, e_eqI, e_neI, e_eqS, e_neS, e_eqB, e_neB, e_isB, e_notB, e_lenL, e_lenT, e_in1, e_notIn1, e_max, e_min, e_intI, e_intB, Bool.not_true, Bool.not_false, decide_true, decide_false, Nat.reduceAdd, e_lenS hz]
          by_cases h1 : (1 : Int) ≤ (z.length : Int)
          · by_cases h8 : (z.length : Int) ≤ 8
            · simp -implicitDefEqProofs only [List.map, List.replicate, List.append, List.cons_append, List.nil_append, List.length, a_bnd, a_ret, a_nope, a_lft, a_rdV, a_getF, a_lookF, a_lookS, a_stillF, a_stillS, a_asRv, a_mop, a_seq, a_ifS, a_ifM, a_notM, a_asB1, a_andV, a_orV, a_notV, a_chain, a_consM, a_looks0, a_looks, a_stills0, a_stills, a_callM, a_callS, a_retM, a_setM, a_setO, a_drpM, a_appM, a_isOwL, a_lstM, a_tupM, a_negM, a_someM, a_slM, a_compM, a_forM, a_asS1, a_asL1, a_asT1, a_rng1, a_enum, a_repM, a_strM1, a_parM, a_iT, a_iF, a_iTr, a_iFr, if_true, if_false, Bool.false_eq_true, Bool.true_eq_false, not_true, not_false_iff, isiG_str, isiG_int, isiG_bool, isiG_tuple, isiG_list, isiG_dict, few_s, List.getElem?_cons_zero, List.getElem?_cons_succ, List.getElem?_nil, List.set_cons_zero, List.set_cons_succ, e_add, e_sub, e_lt, e_le, e_gt, e_ge, e_eqI, e_neI, e_eqS, e_neS, e_eqB, e_neB, e_isB, e_notB, e_lenL, e_lenT, e_in1, e_notIn1, e_max, e_min, e_intI, e_intB, Bool.not_true, Bool.not_false, decide_true, decide_false, Nat.reduceAdd, h1, h8]
              unfold chars
              rw [compA_map (fun c => .bl (letterB c)) [.fz (.str z), .un] rfl (by show z.cps.toList.length ≤ _; rw [Array.length_toList]; exact hz) ?_]
              · simp -implicitDefEqProofs only [List.map, List.replicate, List.append, List.cons_append, List.nil_append, List.length, a_bnd, a_ret, a_nope, a_lft, a_rdV, a_getF, a_lookF, a_lookS, a_stillF, a_stillS, a_asRv, a_mop, a_seq, a_ifS, a_ifM, a_notM, a_asB1, a_andV, a_orV, a_notV, a_chain, a_consM, a_looks0, a_looks, a_stills0, a_stills, a_callM, a_callS, a_retM, a_setM, a_setO, a_drpM, a_appM, a_isOwL, a_lstM, a_tupM, a_negM, a_someM, a_slM, a_compM, a_forM, a_asS1, a_asL1, a_asT1, a_rng1, a_enum, a_repM, a_strM1, a_parM, a_iT, a_iF, a_iTr, a_iFr, if_true, if_false, Bool.false_eq_true, Bool.true_eq_false, not_true, not_false_iff, isiG_str, isiG_int, isiG_bool, isiG_tuple, isiG_list, isiG_dict, few_s, List.getElem?_cons_zero, List.getElem?_cons_succ, List.getElem?_nil, List.set_cons_zero, List.set_cons_succ, e_add, e_sub, e_lt, e_le, e_gt, e_ge, e_eqI, e_neI, e_eqS, e_neS, e_eqB, e_neB, e_isB, e_notB, e_lenL, e_lenT, e_in1, e_notIn1, e_max, e_min, e_intI, e_intB, Bool.not_true, Bool.not_false, decide_true, decide_false, Nat.reduceAdd, allG, boolsOf_map, Option.map]
                refine ⟨[.fz (.str z), .un], ?_⟩
                rw [List.all_map, decide_eq_true (show 1 ≤ z.length ∧ z.length ≤ 8 by omega)]
                rfl
              · intro c _
                exact ⟨_, _, _, rfl, rfl, rfl, rfl⟩
            · simp -implicitDefEqProofs only [List.map, List.replicate, List.append, List.cons_append, List.nil_append, List.length, a_bnd, a_ret, a_nope, a_lft, a_rdV, a_getF, a_lookF, a_lookS, a_stillF, a_stillS, a_asRv, a_mop, a_seq, a_ifS, a_ifM, a_notM, a_asB1, a_andV, a_orV, a_notV, a_chain, a_consM, a_looks0, a_looks, a_stills0, a_stills, a_callM, a_callS, a_retM, a_setM, a_setO, a_drpM, a_appM, a_isOwL, a_lstM, a_tupM, a_negM, a_someM, a_slM, a_compM, a_forM, a_asS1, a_asL1, a_asT1, a_rng1, a_enum, a_repM, a_strM1, a_parM, a_iT, a_iF, a_iTr, a_iFr, if_true, if_false, Bool.false_eq_true, Bool.true_eq_false, not_true, not_false_iff, isiG_str, isiG_int, isiG_bool, isiG_tuple, isiG_list, isiG_dict, few_s, List.getElem?_cons_zero, List.getElem?_cons_succ, List.getElem?_nil, List.set_cons_zero, List.set_cons_succ, e_add, e_sub, e_lt, e_le, e_gt, e_ge, e_eqI, e_neI, e_eqS, e_neS, e_eqB, e_neB, e_isB, e_notB, e_lenL, e_lenT, e_in1, e_notIn1, e_max, e_min, e_intI, e_intB, Bool.not_true, Bool.not_false, decide_true, decide_false, Nat.reduceAdd, h1, h8]
              rw [decide_eq_false (show ¬ (1 ≤ z.length ∧ z.length ≤ 8) by omega)]
              exact ⟨_, rfl⟩
          · simp -implicitDefEqProofs only [List.map, List.replicate, List.append, List.cons_append, List.nil_append, List.length, a_bnd, a_ret, a_nope, a_lft, a_rdV, a_getF, a_lookF, a_lookS, a_stillF, a_stillS, a_asRv, a_mop, a_seq, a_ifS, a_ifM, a_notM, a_asB1, a_andV, a_orV, a_notV, a_chain, a_consM, a_looks0, a_looks, a_stills0, a_stills, a_callM, a_callS, a_retM, a_setM, a_setO, a_drpM, a_appM, a_isOwL, a_lstM, a_tupM, a_negM, a_someM, a_slM, a_compM, a_forM, a_asS1, a_asL1, a_asT1, a_rng1, a_enum, a_repM, a_strM1, a_parM, a_iT, a_iF, a_iTr, a_iFr, if_true, if_false, Bool.false_eq_true, Bool.true_eq_false, not_true, not_false_iff, isiG_str, isiG_int, isiG_bool, isiG_tuple, isiG_list, isiG_dict, few_s, List.getElem?_cons_zero, List.getElem?_cons_succ, List.getElem?_nil, List.set_cons_zero, List.set_cons_succ, e_add, e_sub, e_lt, e_le, e_gt, e_ge, e_eqI, e_neI, e_eqS, e_neS, e_eqB, e_neB, e_isB, e_notB, e_lenL, e_lenT, e_in1, e_notIn1, e_max, e_min, e_intI, e_intB, Bool.not_true, Bool.not_false, decide_true, decide_false, Nat.reduceAdd, h1]
            rw [decide_eq_false (show ¬ (1 ≤ z.length ∧ z.length ≤ 8) by omega)]
            exact ⟨_, rfl⟩
        · rw [if_neg hz] at hg
          cases hg
      | obj C fs => cases hg
      | cls v => cases hg
      | _ => exact (by simp -implicitDefEqProofs only [List.map, List.replicate, List.append, List.cons_append, List.nil_append, List.length, a_bnd, a_ret, a_nope, a_lft, a_rdV, a_getF, a_lookF, a_lookS, a_stillF, a_stillS, a_asRv, a_mop, a_seq, a_ifS, a_ifM, a_notM, a_asB1, a_andV, a_orV, a_notV, a_chain, a_consM, a_looks0, a_looks, a_stills0, a_stills, a_callM, a_callS, a_retM, a_setM, a_setO, a_drpM, a_appM, a_isOwL, a_lstM, a_tupM, a_negM, a_someM, a_slM, a_compM, a_forM, a_asS1, a_asL1, a_asT1, a_rng1, a_enum, a_repM, a_strM1, a_parM, a_iT, a_iF, a_iTr, a_iFr, if_true, if_false, Bool.false_eq_true, Bool.true_eq_false, not_true, not_false_iff, isiG_str, isiG_int, isiG_bool, isiG_tuple, isiG_list, isiG_dict, few_s, List.getElem?_cons_zero, List.getElem?_cons_succ, List.getElem?_nil, List.set_cons_zero, List.set_cons_succ, e_add, e_sub, e_lt, e_le, e_gt, e_ge, e_eqI, e_neI, e_eqS, e_neS, e_eqB, e_neB, e_isB, e_notB, e_lenL, e_lenT, e_in1, e_notIn1, e_max, e_min, e_intI, e_intB, Bool.not_true, Bool.not_false, decide_true, decide_false, Nat.reduceAdd]; cases hg; exact ⟨_, rfl⟩)
  case hne => exact specF_noex _

abbrev G__law_numbers := specF gNumbers
abbrev s__law_numbers : Stmt := topS 39
theorem sc__law_numbers : FnScope ["_law_cell", "_law_salt", "_law_sizes", "_law_whole", "_law_left", "_law_result", "_law_k", "_law_one"] ["_law_cell", "_law_salt", "_law_sizes"] (defScope s__law_numbers) := ⟨rfl, rfl, rfl, by decide +kernel, rfl, by decide +kernel, by decide +kernel⟩
theorem ok__law_numbers {f : Addr} {fd : FuncData} (F : Fun K "_law_numbers" "_law_numbers" s__law_numbers f fd) (T : Txt K mg) : FnOk P w K mg base CX0 1 f fd ["_law_cell", "_law_salt", "_law_sizes"] (spD K 3 G__law_numbers) := by
  refine okD F sc__law_numbers rfl (fun cdv A outer s H E hr => ⟨_, (jss_cons (js_set 3 (j_callB (call_max2 rfl) cd_max2 boot_max T.z_max (by rfl) (ja_cons (jr 0) (ja_cons (JE.rv (j_op op_sub od_sub (JE.rv (j_neg (JE.rv j_int))) (jr 0))) ja_nil))) sc__law_numbers.nd (by first | exact Or.inl rfl | exact Or.inr rfl))
      (jss_cons (js_set 4 (jv 3) sc__law_numbers.nd (by first | exact Or.inl rfl | exact Or.inr rfl))
      (jss_cons (js_setO 5 (j_lst ja_nil) sc__law_numbers.nd (by first | exact Or.inl rfl | exact Or.inr rfl))
      (jss_cons (js_for (own := [6]) PassesOwn.never rfl (ji_rng1 T.z_range (by rfl) (ja_cons (JE.rv (j_callB call_len cd_len PySem.boot_len T.z_len (by rfl) (ja_cons (jr 2) ja_nil))) ja_nil)) (jg_name (i := 6) sc__law_numbers.nd rfl (by first | exact Or.inl rfl | exact Or.inr rfl) (by decide))
      (jss_one (js_if (JW.jt (jw_and (jt_cmp op_ge od_ge (jr 3) (JE.rv (j_op op_pow od_pow (JE.rv j_int) (JE.rv j_int))) (nomark _)) (jw_and1 (jt_cmp op_gt od_gt (jr 4) (JE.rv j_int) (nomark _))))) (jss_cons (js_append 5 (j_op op_mod od_mod (jr 4) (JE.rv (j_ix (jr 2) (jr 6)))))
      (jss_one (js_set 4 (j_op op_fdiv od_div (jr 4) (JE.rv (j_ix (jr 2) (jr 6)))) sc__law_numbers.nd (by first | exact Or.inl rfl | exact Or.inr rfl)))) (jss_cons (js_set 7 (j_op op_mod od_mod (JE.rv (j_op op_pow od_pow (JE.rv (j_op op_addA od_addA (JE.rv (j_op op_addA od_addA (JE.rv (j_op op_mod od_mod (jr 3) (JE.rv j_int))) (JE.rv (j_op op_mul od_mul (JE.rv j_int) (jr 1))))) (JE.rv j_int))) (JE.rv j_int))) (JE.rv j_int)) sc__law_numbers.nd (by first | exact Or.inl rfl | exact Or.inr rfl))
      (jss_cons (js_set 7 (j_op op_mod od_mod (JE.rv (j_op op_mul od_mul (JE.rv (j_op op_addA od_addA (jr 7) (JE.rv (j_op op_mul od_mul (JE.rv j_int) (JE.rv (j_op op_addA od_addA (jr 6) (JE.rv j_int))))))) (JE.rv (j_op op_addA od_addA (jr 6) (JE.rv j_int))))) (JE.rv j_int)) sc__law_numbers.nd (by first | exact Or.inl rfl | exact Or.inr rfl))
      (jss_cons (js_set 7 (j_op op_mod od_mod (JE.rv (j_op op_mul od_mul (JE.rv (j_op op_mod od_mod (JE.rv (j_op op_pow od_pow (jr 7) (JE.rv j_int))) (JE.rv j_int))) (JE.rv j_int))) (JE.rv j_int)) sc__law_numbers.nd (by first | exact Or.inl rfl | exact Or.inr rfl))
      (jss_one (js_append 5 (j_op op_mod od_mod (JE.rv (j_op op_fdiv od_div (jr 7) (JE.rv j_int))) (JE.rv (j_ix (jr 2) (jr 6))))))))))))
      (jss_one (js_ret (jv 5)))))))⟩) ?hG ?hne
  case hG =>
    refine tells_F (m := 5) fun ds d hl hg => ?_
    match ds, hl, hg with
    | [x, y, z], _, hg =>
      unfold gNumbers at hg
      split at hg
      · rename_i cell salt sz heq
        cases heq
        split at hg
        · rename_i ss hss
          split at hg
          · rename_i hok
            cases hg
            have hsz := intsOf_some hss
            subst hsz
            unfold sizesOk at hok
            rw [Bool.and_eq_true, Bool.and_eq_true] at hok
            obtain ⟨⟨h1, h2⟩, h3⟩ := hok
            have h1 := of_decide_eq_true h1
            have h2 := of_decide_eq_true h2
            have h3 : ∀ s ∈ ss, 0 < s ∧ s < 1073741824 := fun s hs => of_decide_eq_true (List.all_eq_true.mp h3 s hs)
            have hw : ∀ (i : Nat), (-(2 ^ 62 : Int) ≤ (ss.length : Int) ∧ (ss.length : Int) < 2 ^ 62) := fun _ => by constructor <;> omega
            simp -implicitDefEqProofs only [List.map, List.replicate, List.append, List.cons_append, List.nil_append, List.length, a_bnd, a_ret, a_nope, a_lft, a_rdV, a_getF, a_lookF, a_lookS, a_stillF, a_stillS, a_asRv, a_mop, a_seq, a_ifS, a_ifM, a_notM, a_asB1, a_andV, a_orV, a_notV, a_chain, a_consM, a_looks0, a_looks, a_stills0, a_stills, a_callM, a_callS, a_retM, a_setM, a_setO, a_drpM, a_appM, a_isOwL, a_lstM, a_tupM, a_negM, a_someM, a_slM, a_compM, a_forM, a_asS1, a_asL1, a_asT1, a_rng1, a_enum, a_repM, a_strM1, a_parM, a_iT, a_iF, a_iTr, a_iFr, if_true, if_false, Bool.false_eq_true, Bool.true_eq_false, not_true, not_false_iff, isiG_str, isiG_int, isiG_bool, isiG_tuple, isiG_list, isiG_dict, few_s, List.getElem?_cons_zero, List.getElem?_cons_succ, List.getElem?_nil, List.set_cons_zero, List.set_cons_succ, e_add, e_sub, e_lt, e_le, e_gt, e_ge, e_eqI, e_neI, e_eqS, e_neS, e_eqB, e_neB, e_isB, e_notB, e_lenL, e_lenT, e_in1, e_notIn1, e_max, e_min, e_intI, e_intB, Bool.not_true, Bool.not_false, decide_true, decide_false, Nat.reduceAdd, List.length_map, hw 0, and_self]
            generalize hF : forL _ _ _ _ = r
            have hP := forL_of hF (fun i e => ∃ left acc a b, e = [.fz (.int cell), .fz (.int salt), .fz (.lst (ss.map .int)), .fz (.int (wholeOf cell)), .fz (.int left), .ow none (.lst (List.map D.int acc)), a, b] ∧ acc.length = i ∧ acc ++ numsL (wholeOf cell) salt (ss.drop i) (i : Int) left = numsL (wholeOf cell) salt ss 0 (wholeOf cell))
              ⟨wholeOf cell, [], .un, .un, rfl, rfl, rfl⟩ (by
                rintro j d e hj ⟨left, acc, a, b, rfl, hacc, hN⟩
                obtain ⟨hjn, rfl⟩ := rngD_get hj
                have hj2 : j < ss.length := by omega
                have hs := List.getElem?_eq_getElem hj2
                have hsp := h3 _ (List.getElem_mem hj2)
                obtain ⟨k1, k2⟩ := nums_snoc (wholeOf cell) salt ss j ss[j] left acc (j : Int) hs rfl hN
                have f1 : ixG (.lst (ss.map .int)) (.int (0 + (j : Int))) = some (.int ss[j]) := e_ixL (n := j) (by omega) (by rw [List.getElem?_map, hs]; rfl)
                have f2 : powG (.int 10) (.int 18) = some (.int (10 ^ 18)) := e_pow 10 18 (by decide)
                have g1 := e_mod left ss[j] hsp.1
                have g2 := e_div left ss[j] hsp
                have hm := Int.emod_nonneg (wholeOf cell) (show (2147483629 : Int) ≠ 0 by decide)
                have hm2 := Int.emod_lt_of_pos (wholeOf cell) (show (0 : Int) < 2147483629 by decide)
                have q1 := e_mod (wholeOf cell) 2147483629 (by decide)
                have q2 := e_mulL 7919 salt (by decide)
                have q3 := e_pow (wholeOf cell % 2147483629 + 7919 * salt + 1) 3 ⟨by decide, by decide, by omega⟩
                have q4 := e_mod ((wholeOf cell % 2147483629 + 7919 * salt + 1) ^ (3 : Int).toNat) 2147483647 (by decide)
                have q5 := e_mulL 104729 (0 + (j : Int) + 1) (by decide)
                have q6 := e_mulR ((wholeOf cell % 2147483629 + 7919 * salt + 1) ^ (3 : Int).toNat % 2147483647 + 104729 * (0 + (j : Int) + 1)) (0 + (j : Int) + 3) (by omega)
                have q7 := e_mod (((wholeOf cell % 2147483629 + 7919 * salt + 1) ^ (3 : Int).toNat % 2147483647 + 104729 * (0 + (j : Int) + 1)) * (0 + (j : Int) + 3)) 2147483629 (by decide)
                generalize hb : ((wholeOf cell % 2147483629 + 7919 * salt + 1) ^ (3 : Int).toNat % 2147483647 + 104729 * (0 + (j : Int) + 1)) * (0 + (j : Int) + 3) % 2147483629 = b2 at q7
                have hb1 : 0 ≤ b2 := by rw [← hb]; exact Int.emod_nonneg _ (by decide)
                have hb2 : b2 < 2147483629 := by rw [← hb]; exact Int.emod_lt_of_pos _ (by decide)
                have q8 := e_pow b2 5 ⟨by decide, by decide, by omega⟩
                have q9 := e_mod (b2 ^ (5 : Int).toNat) 2147483647 (by decide)
                have q10 := e_mulR (b2 ^ (5 : Int).toNat % 2147483647) 48271 (by decide)
                have q11 := e_mod (b2 ^ (5 : Int).toNat % 2147483647 * 48271) 2147483629 (by decide)
                have q12 := e_div (b2 ^ (5 : Int).toNat % 2147483647 * 48271 % 2147483629) 16 (by decide)
                have q13 := e_mod (oneN (wholeOf cell) salt (j : Int)) ss[j] hsp.1
                have q14 : b2 ^ (5 : Int).toNat % 2147483647 * 48271 % 2147483629 / 16 = oneN (wholeOf cell) salt (j : Int) := by
                  rw [← hb, show (0 : Int) + (j : Int) = (j : Int) from Int.zero_add _]
                  rfl
                have hl1 : (List.map D.int acc).length < sizeLine := by rw [List.length_map, hacc]; exact Nat.lt_of_lt_of_le hj2 (Nat.le_trans h2 (by decide))
                by_cases c1 : (10 ^ 18 : Int) ≤ wholeOf cell
                · by_cases c2 : 0 < left
                  · refine ⟨_, [.fz (.int cell), .fz (.int salt), .fz (.lst (ss.map .int)), .fz (.int (wholeOf cell)), .fz (.int (left / ss[j])), .ow none (.lst (List.map D.int (acc ++ [left % ss[j]]))), .fz (.int (0 + (j : Int))), b], rfl, Or.inl ?_, left / ss[j], acc ++ [left % ss[j]], _, _, rfl, by rw [List.length_append, hacc]; rfl, ?_⟩
                    · simp -implicitDefEqProofs only [List.map, List.replicate, List.append, List.cons_append, List.nil_append, List.length, a_bnd, a_ret, a_nope, a_lft, a_rdV, a_getF, a_lookF, a_lookS, a_stillF, a_stillS, a_asRv, a_mop, a_seq, a_ifS, a_ifM, a_notM, a_asB1, a_andV, a_orV, a_notV, a_chain, a_consM, a_looks0, a_looks, a_stills0, a_stills, a_callM, a_callS, a_retM, a_setM, a_setO, a_drpM, a_appM, a_isOwL, a_lstM, a_tupM, a_negM, a_someM, a_slM, a_compM, a_forM, a_asS1, a_asL1, a_asT1, a_rng1, a_enum, a_repM, a_strM1, a_parM, a_iT, a_iF, a_iTr, a_iFr, if_true, if_false, Bool.false_eq_true, Bool.true_eq_false, not_true, not_false_iff, isiG_str, isiG_int, isiG_bool, isiG_tuple, isiG_list, isiG_dict, few_s, List.getElem?_cons_zero, List.getElem?_cons_succ, List.getElem?_nil, List.set_cons_zero, List.set_cons_succ, e_add, e_sub, e_lt, e_le, e_gt, e_ge, e_eqI, e_neI, e_eqS, e_neS, e_eqB, e_neB, e_isB, e_notB, e_lenL, e_lenT, e_in1, e_notIn1, e_max, e_min, e_intI, e_intB, Bool.not_true, Bool.not_false, decide_true, decide_false, Nat.reduceAdd, f1, f2, g1, g2, c1, c2, hl1]
                      rw [List.map_append]; rfl
                    · exact k1 ⟨c1, c2⟩
                  · refine ⟨_, [.fz (.int cell), .fz (.int salt), .fz (.lst (ss.map .int)), .fz (.int (wholeOf cell)), .fz (.int left), .ow none (.lst (List.map D.int (acc ++ [oneN (wholeOf cell) salt (j : Int) % ss[j]]))), .fz (.int (0 + (j : Int))), .fz (.int (b2 ^ (5 : Int).toNat % 2147483647 * 48271 % 2147483629))], rfl, Or.inl ?_, left, acc ++ [oneN (wholeOf cell) salt (j : Int) % ss[j]], _, _, rfl, by rw [List.length_append, hacc]; rfl, ?_⟩
                    · simp -implicitDefEqProofs only [List.map, List.replicate, List.append, List.cons_append, List.nil_append, List.length, a_bnd, a_ret, a_nope, a_lft, a_rdV, a_getF, a_lookF, a_lookS, a_stillF, a_stillS, a_asRv, a_mop, a_seq, a_ifS, a_ifM, a_notM, a_asB1, a_andV, a_orV, a_notV, a_chain, a_consM, a_looks0, a_looks, a_stills0, a_stills, a_callM, a_callS, a_retM, a_setM, a_setO, a_drpM, a_appM, a_isOwL, a_lstM, a_tupM, a_negM, a_someM, a_slM, a_compM, a_forM, a_asS1, a_asL1, a_asT1, a_rng1, a_enum, a_repM, a_strM1, a_parM, a_iT, a_iF, a_iTr, a_iFr, if_true, if_false, Bool.false_eq_true, Bool.true_eq_false, not_true, not_false_iff, isiG_str, isiG_int, isiG_bool, isiG_tuple, isiG_list, isiG_dict, few_s, List.getElem?_cons_zero, List.getElem?_cons_succ, List.getElem?_nil, List.set_cons_zero, List.set_cons_succ, e_add, e_sub, e_lt, e_le, e_gt, e_ge, e_eqI, e_neI, e_eqS, e_neS, e_eqB, e_neB, e_isB, e_notB, e_lenL, e_lenT, e_in1, e_notIn1, e_max, e_min, e_intI, e_intB, Bool.not_true, Bool.not_false, decide_true, decide_false, Nat.reduceAdd, f1, f2, q1, q2, q3, q4, q5, q6, q7, q8, q9, q10, q11, q12, q13, q14, c1, c2, hl1]
                      rw [List.map_append]; rfl
                    · exact k2 fun z => c2 z.2
                · refine ⟨_, [.fz (.int cell), .fz (.int salt), .fz (.lst (ss.map .int)), .fz (.int (wholeOf cell)), .fz (.int left), .ow none (.lst (List.map D.int (acc ++ [oneN (wholeOf cell) salt (j : Int) % ss[j]]))), .fz (.int (0 + (j : Int))), .fz (.int (b2 ^ (5 : Int).toNat % 2147483647 * 48271 % 2147483629))], rfl, Or.inl ?_, left, acc ++ [oneN (wholeOf cell) salt (j : Int) % ss[j]], _, _, rfl, by rw [List.length_append, hacc]; rfl, ?_⟩
                  · simp -implicitDefEqProofs only [List.map, List.replicate, List.append, List.cons_append, List.nil_append, List.length, a_bnd, a_ret, a_nope, a_lft, a_rdV, a_getF, a_lookF, a_lookS, a_stillF, a_stillS, a_asRv, a_mop, a_seq, a_ifS, a_ifM, a_notM, a_asB1, a_andV, a_orV, a_notV, a_chain, a_consM, a_looks0, a_looks, a_stills0, a_stills, a_callM, a_callS, a_retM, a_setM, a_setO, a_drpM, a_appM, a_isOwL, a_lstM, a_tupM, a_negM, a_someM, a_slM, a_compM, a_forM, a_asS1, a_asL1, a_asT1, a_rng1, a_enum, a_repM, a_strM1, a_parM, a_iT, a_iF, a_iTr, a_iFr, if_true, if_false, Bool.false_eq_true, Bool.true_eq_false, not_true, not_false_iff, isiG_str, isiG_int, isiG_bool, isiG_tuple, isiG_list, isiG_dict, few_s, List.getElem?_cons_zero, List.getElem?_cons_succ, List.getElem?_nil, List.set_cons_zero, List.set_cons_succ, e_add, e_sub, e_lt, e_le, e_gt, e_ge, e_eqI, e_neI, e_eqS, e_neS, e_eqB, e_neB, e_isB, e_notB, e_lenL, e_lenT, e_in1, e_notIn1, e_max, e_min, e_intI, e_intB, Bool.not_true, Bool.not_false, decide_true, decide_false, Nat.reduceAdd, f1, f2, q1, q2, q3, q4, q5, q6, q7, q8, q9, q10, q11, q12, q13, q14, c1, hl1]
                    rw [List.map_append]; rfl
                  · exact k2 fun z => c1 z.1)
            obtain ⟨e, rfl, left, acc, a, b, rfl, hacc, hN⟩ := hP
            simp -implicitDefEqProofs only [List.map, List.replicate, List.append, List.cons_append, List.nil_append, List.length, a_bnd, a_ret, a_nope, a_lft, a_rdV, a_getF, a_lookF, a_lookS, a_stillF, a_stillS, a_asRv, a_mop, a_seq, a_ifS, a_ifM, a_notM, a_asB1, a_andV, a_orV, a_notV, a_chain, a_consM, a_looks0, a_looks, a_stills0, a_stills, a_callM, a_callS, a_retM, a_setM, a_setO, a_drpM, a_appM, a_isOwL, a_lstM, a_tupM, a_negM, a_someM, a_slM, a_compM, a_forM, a_asS1, a_asL1, a_asT1, a_rng1, a_enum, a_repM, a_strM1, a_parM, a_iT, a_iF, a_iTr, a_iFr, if_true, if_false, Bool.false_eq_true, Bool.true_eq_false, not_true, not_false_iff, isiG_str, isiG_int, isiG_bool, isiG_tuple, isiG_list, isiG_dict, few_s, List.getElem?_cons_zero, List.getElem?_cons_succ, List.getElem?_nil, List.set_cons_zero, List.set_cons_succ, e_add, e_sub, e_lt, e_le, e_gt, e_ge, e_eqI, e_neI, e_eqS, e_neS, e_eqB, e_neB, e_isB, e_notB, e_lenL, e_lenT, e_in1, e_notIn1, e_max, e_min, e_intI, e_intB, Bool.not_true, Bool.not_false, decide_true, decide_false, Nat.reduceAdd]
            rw [rngD_length] at hN hacc
            have hN2 : acc = numbers cell salt ss := by
              rw [List.drop_of_length_le (by omega), show ∀ k l, numsL (wholeOf cell) salt [] k l = [] from fun _ _ => rfl, List.append_nil] at hN
              exact hN
            rw [hN2]
            exact ⟨_, rfl⟩
          · cases hg
        · cases hg
      · cases hg
  case hne => exact specF_noex _

abbrev G__law_pool := gPool
abbrev s__law_pool : Stmt := topS 40
theorem sc__law_pool : FnScope ["_law_cell", "_law_salt", "_law_many"] ["_law_cell", "_law_salt", "_law_many"] (defScope s__law_pool) := ⟨rfl, rfl, rfl, by decide +kernel, rfl, by decide +kernel, by decide +kernel⟩
theorem ok__law_pool {f : Addr} {fd : FuncData} (F : Fun K "_law_pool" "_law_pool" s__law_pool f fd) (T : Txt K mg) (d__law_numbers : Dfn P w K mg base CX0 1 "_law_numbers" 3 G__law_numbers) : FnOk P w K mg base CX0 2 f fd ["_law_cell", "_law_salt", "_law_many"] (spN K 3 G__law_pool) := by
  refine okN F sc__law_pool rfl (fun cdv A outer s H E hr => ⟨_, (jns_ret (j_lst (ja_cons (JE.rv (j_call d__law_numbers (hr.mono (by decide)) pass0 (by rfl) (ja_cons (JE.rv (jv 0)) (ja_cons (JE.rv (jv 1)) (ja_cons (JE.rv (JN.je (j_rep (j_lst (ja_cons (JE.rv j_int) ja_nil)) (jr 2)))) ja_nil))))) (ja_cons (JE.rv j_int) ja_nil))))⟩) ?hG 
  case hG =>
    intro ds d hl hg
    match ds, hl, hg with
    | [x, y, z], _, hg =>
      replace hg : gPool [x, y, z] = some d := hg
      unfold gPool at hg
      split at hg
      · rename_i cell salt many heq
        cases heq
        split at hg
        · rename_i hok
          cases hg
          obtain ⟨h1, h2, h3, h4⟩ := hok
          have hr : (-(2 ^ 63) ≤ many ∧ many < 2 ^ 63 ∧ 1 * many.toNat ≤ sizeLine) := ⟨by omega, by omega, by rw [Nat.one_mul]; exact szk (by omega)⟩
          have gn : gNumbers [.int cell, .int salt, .lst (List.map D.int (List.replicate many.toNat 420))] = some (.lst ((numbers cell salt (List.replicate many.toNat 420)).map .int)) := by
            unfold gNumbers
            simp only [intsOf_map]
            rw [if_pos]
            unfold sizesOk
            rw [decide_eq_true (show 0 ≤ salt ∧ salt ≤ 100000 from ⟨h1, h2⟩), List.length_replicate, decide_eq_true (show many.toNat ≤ 100000 by omega)]
            rw [List.all_eq_true.mpr (fun s hs => by rw [(List.mem_replicate.mp hs).2]; decide)]
            rfl
          simp -implicitDefEqProofs only [List.map, List.replicate, List.append, List.cons_append, List.nil_append, List.length, a_bnd, a_ret, a_nope, a_lft, a_rdV, a_getF, a_lookF, a_lookS, a_stillF, a_stillS, a_asRv, a_mop, a_seq, a_ifS, a_ifM, a_notM, a_asB1, a_andV, a_orV, a_notV, a_chain, a_consM, a_looks0, a_looks, a_stills0, a_stills, a_callM, a_callS, a_retM, a_setM, a_setO, a_drpM, a_appM, a_isOwL, a_lstM, a_tupM, a_negM, a_someM, a_slM, a_compM, a_forM, a_asS1, a_asL1, a_asT1, a_rng1, a_enum, a_repM, a_strM1, a_parM, a_iT, a_iF, a_iTr, a_iFr, if_true, if_false, Bool.false_eq_true, Bool.true_eq_false, not_true, not_false_iff, isiG_str, isiG_int, isiG_bool, isiG_tuple, isiG_list, isiG_dict, few_s, List.getElem?_cons_zero, List.getElem?_cons_succ, List.getElem?_nil, List.set_cons_zero, List.set_cons_succ, e_add, e_sub, e_lt, e_le, e_gt, e_ge, e_eqI, e_neI, e_eqS, e_neS, e_eqB, e_neB, e_isB, e_notB, e_lenL, e_lenT, e_in1, e_notIn1, e_max, e_min, e_intI, e_intB, Bool.not_true, Bool.not_false, decide_true, decide_false, Nat.reduceAdd, hr, and_self, rep_flat D.int 420, gn]
          exact ⟨_, rfl⟩
        · cases hg
      · cases hg

abbrev G__law_draw := specO gDraw
abbrev s__law_draw : Stmt := topS 41
theorem sc__law_draw : FnScope ["_law_pool_here", "_law_many", "_law_at"] ["_law_pool_here", "_law_many"] (defScope s__law_draw) := ⟨rfl, rfl, rfl, by decide +kernel, rfl, by decide +kernel, by decide +kernel⟩
theorem ok__law_draw {f : Addr} {fd : FuncData} (F : Fun K "_law_draw" "_law_draw" s__law_draw f fd) (T : Txt K mg) : FnOk P w K mg base CX0 1 f fd ["_law_pool_here", "_law_many"] (spD K 2 G__law_draw) := by
  refine okD F sc__law_draw rfl (fun cdv A outer s H E hr => ⟨_, (jss_cons (js_set 2 (j_ix (jr 0) (JE.rv j_int)) sc__law_draw.nd (by first | exact Or.inl rfl | exact Or.inr rfl))
      (jss_cons (js_setIx 0 (JE.rv j_int) (j_op op_addA od_addA (jr 2) (JE.rv j_int)))
      (jss_one (js_ret (j_if (jt_cmp op_lt od_lt (jr 2) (JE.rv (j_callB call_len cd_len PySem.boot_len T.z_len (by rfl) (ja_cons (JE.rv (j_ix (jr 0) (JE.rv j_int))) ja_nil))) (nomark _)) (j_op op_mod od_mod (JE.rv (j_callT call_int1 cd_int boot_int T.z_int (by rfl) (ja_cons (JE.rv (j_ix (JE.rv (j_ix (jr 0) (JE.rv j_int))) (jr 2))) ja_nil))) (jr 1)) j_int)))))⟩) ?hG ?hne
  case hG =>
    refine tells_O (m := 1) fun o ds d o' hl hg => ?_
    match ds, hl, hg with
    | [x], _, hg =>
      unfold gDraw at hg
      split at hg
      · rename_i ns k m hp heq
        cases heq
        split at hg
        · rename_i hm
          cases hg
          have ho := poolOf_some hp
          subst ho
          have i1 : ixG (poolD ns k) (.int 1) = some (.int k) := rfl
          have i0 : ixG (.lst [.lst (ns.map .int), .int ((k : Int) + 1)]) (.int 0) = some (.lst (ns.map .int)) := rfl
          have ix1 : ixN 2 1 = some 1 := rfl
          have st : [D.lst (ns.map .int), D.int k].set 1 (.int ((k : Int) + 1)) = [.lst (ns.map .int), .int ((k : Int) + 1)] := rfl
          simp -implicitDefEqProofs only [List.map, List.replicate, List.append, List.cons_append, List.nil_append, List.length, a_bnd, a_ret, a_nope, a_lft, a_rdV, a_getF, a_lookF, a_lookS, a_stillF, a_stillS, a_asRv, a_mop, a_seq, a_ifS, a_ifM, a_notM, a_asB1, a_andV, a_orV, a_notV, a_chain, a_consM, a_looks0, a_looks, a_stills0, a_stills, a_callM, a_callS, a_retM, a_setM, a_setO, a_drpM, a_appM, a_isOwL, a_lstM, a_tupM, a_negM, a_someM, a_slM, a_compM, a_forM, a_asS1, a_asL1, a_asT1, a_rng1, a_enum, a_repM, a_strM1, a_parM, a_iT, a_iF, a_iTr, a_iFr, if_true, if_false, Bool.false_eq_true, Bool.true_eq_false, not_true, not_false_iff, isiG_str, isiG_int, isiG_bool, isiG_tuple, isiG_list, isiG_dict, few_s, List.getElem?_cons_zero, List.getElem?_cons_succ, List.getElem?_nil, List.set_cons_zero, List.set_cons_succ, e_add, e_sub, e_lt, e_le, e_gt, e_ge, e_eqI, e_neI, e_eqS, e_neS, e_eqB, e_neB, e_isB, e_notB, e_lenL, e_lenT, e_in1, e_notIn1, e_max, e_min, e_intI, e_intB, Bool.not_true, Bool.not_false, decide_true, decide_false, Nat.reduceAdd, i1]
          unfold poolD
          by_cases hk : (k : Int) < (ns.length : Int)
          · have hk2 : k < ns.length := by omega
            have i2 : ixG (.lst (ns.map .int)) (.int k) = _ := ixI k hk2 rfl
            have i3 := e_mod (ns.getD k 0) m hm
            simp -implicitDefEqProofs only [List.map, List.replicate, List.append, List.cons_append, List.nil_append, List.length, a_bnd, a_ret, a_nope, a_lft, a_rdV, a_getF, a_lookF, a_lookS, a_stillF, a_stillS, a_asRv, a_mop, a_seq, a_ifS, a_ifM, a_notM, a_asB1, a_andV, a_orV, a_notV, a_chain, a_consM, a_looks0, a_looks, a_stills0, a_stills, a_callM, a_callS, a_retM, a_setM, a_setO, a_drpM, a_appM, a_isOwL, a_lstM, a_tupM, a_negM, a_someM, a_slM, a_compM, a_forM, a_asS1, a_asL1, a_asT1, a_rng1, a_enum, a_repM, a_strM1, a_parM, a_iT, a_iF, a_iTr, a_iFr, if_true, if_false, Bool.false_eq_true, Bool.true_eq_false, not_true, not_false_iff, isiG_str, isiG_int, isiG_bool, isiG_tuple, isiG_list, isiG_dict, few_s, List.getElem?_cons_zero, List.getElem?_cons_succ, List.getElem?_nil, List.set_cons_zero, List.set_cons_succ, e_add, e_sub, e_lt, e_le, e_gt, e_ge, e_eqI, e_neI, e_eqS, e_neS, e_eqB, e_neB, e_isB, e_notB, e_lenL, e_lenT, e_in1, e_notIn1, e_max, e_min, e_intI, e_intB, Bool.not_true, Bool.not_false, decide_true, decide_false, Nat.reduceAdd, a_setIx, ix1, st, i0, i2, i3, hk, List.length_map]
            unfold drawn
            rw [if_pos hk2]
            exact ⟨_, rfl⟩
          · simp -implicitDefEqProofs only [List.map, List.replicate, List.append, List.cons_append, List.nil_append, List.length, a_bnd, a_ret, a_nope, a_lft, a_rdV, a_getF, a_lookF, a_lookS, a_stillF, a_stillS, a_asRv, a_mop, a_seq, a_ifS, a_ifM, a_notM, a_asB1, a_andV, a_orV, a_notV, a_chain, a_consM, a_looks0, a_looks, a_stills0, a_stills, a_callM, a_callS, a_retM, a_setM, a_setO, a_drpM, a_appM, a_isOwL, a_lstM, a_tupM, a_negM, a_someM, a_slM, a_compM, a_forM, a_asS1, a_asL1, a_asT1, a_rng1, a_enum, a_repM, a_strM1, a_parM, a_iT, a_iF, a_iTr, a_iFr, if_true, if_false, Bool.false_eq_true, Bool.true_eq_false, not_true, not_false_iff, isiG_str, isiG_int, isiG_bool, isiG_tuple, isiG_list, isiG_dict, few_s, List.getElem?_cons_zero, List.getElem?_cons_succ, List.getElem?_nil, List.set_cons_zero, List.set_cons_succ, e_add, e_sub, e_lt, e_le, e_gt, e_ge, e_eqI, e_neI, e_eqS, e_neS, e_eqB, e_neB, e_isB, e_notB, e_lenL, e_lenT, e_in1, e_notIn1, e_max, e_min, e_intI, e_intB, Bool.not_true, Bool.not_false, decide_true, decide_false, Nat.reduceAdd, a_setIx, ix1, st, i0, hk, List.length_map]
            unfold drawn
            rw [if_neg (by omega)]
            exact ⟨_, rfl⟩
        · cases hg
      · cases hg
  case hne => exact specO_noex _

abbrev G__law_pick := specO gPick
abbrev s__law_pick : Stmt := topS 42
theorem sc__law_pick : FnScope ["_law_pool_here", "_law_some"] ["_law_pool_here", "_law_some"] (defScope s__law_pick) := ⟨rfl, rfl, rfl, by decide +kernel, rfl, by decide +kernel, by decide +kernel⟩
theorem ok__law_pick {f : Addr} {fd : FuncData} (F : Fun K "_law_pick" "_law_pick" s__law_pick f fd) (T : Txt K mg) (d__law_draw : Dfn P w K mg base CX0 1 "_law_draw" 2 G__law_draw) : FnOk P w K mg base CX0 2 f fd ["_law_pool_here", "_law_some"] (spD K 2 G__law_pick) := by
  refine okD F sc__law_pick rfl (fun cdv A outer s H E hr => ⟨_, (jss_one (js_ret (j_ix (jr 1) (JE.rv (j_callO 0 d__law_draw (hr.mono (by decide)) pass0 (by rfl) (ja_cons (JE.rv (j_callB call_len cd_len PySem.boot_len T.z_len (by rfl) (ja_cons (jr 1) ja_nil))) ja_nil))))))⟩) ?hG ?hne
  case hG =>
    refine tells_O (m := 0) fun o ds d o' hl hg => ?_
    match ds, hl, hg with
    | [x], _, hg =>
      unfold gPick at hg
      split at hg
      · rename_i ns k xs hp heq
        cases heq
        split at hg
        · rename_i y hy
          split at hg
          · rename_i hx
            cases hg
            have ho := poolOf_some hp
            subst ho
            have hd := gDraw_mk ns k (m := (xs.length : Int)) (by omega)
            have i1 : ixG (.lst xs) (.int (drawn ns k (xs.length : Int))) = some d := e_ixL (n := (drawn ns k xs.length).toNat) (Int.toNat_of_nonneg (drawn_lo ns k (by omega))).symm hy
            simp -implicitDefEqProofs only [List.map, List.replicate, List.append, List.cons_append, List.nil_append, List.length, a_bnd, a_ret, a_nope, a_lft, a_rdV, a_getF, a_lookF, a_lookS, a_stillF, a_stillS, a_asRv, a_mop, a_seq, a_ifS, a_ifM, a_notM, a_asB1, a_andV, a_orV, a_notV, a_chain, a_consM, a_looks0, a_looks, a_stills0, a_stills, a_callM, a_callS, a_retM, a_setM, a_setO, a_drpM, a_appM, a_isOwL, a_lstM, a_tupM, a_negM, a_someM, a_slM, a_compM, a_forM, a_asS1, a_asL1, a_asT1, a_rng1, a_enum, a_repM, a_strM1, a_parM, a_iT, a_iF, a_iTr, a_iFr, if_true, if_false, Bool.false_eq_true, Bool.true_eq_false, not_true, not_false_iff, isiG_str, isiG_int, isiG_bool, isiG_tuple, isiG_list, isiG_dict, few_s, List.getElem?_cons_zero, List.getElem?_cons_succ, List.getElem?_nil, List.set_cons_zero, List.set_cons_succ, e_add, e_sub, e_lt, e_le, e_gt, e_ge, e_eqI, e_neI, e_eqS, e_neS, e_eqB, e_neB, e_isB, e_notB, e_lenL, e_lenT, e_in1, e_notIn1, e_max, e_min, e_intI, e_intB, Bool.not_true, Bool.not_false, decide_true, decide_false, Nat.reduceAdd, a_callO, a_isOw, hd, i1]
            exact ⟨_, rfl⟩
          · cases hg
        · cases hg
      · cases hg
  case hne => exact specO_noex _

def okV (d : D) : Bool := gd 8 d || (match d with
  | .dct [] => true
  | _ => false)
theorem okV_gd {d : D} (h : gd 7 d = true) : okV d = true := by unfold okV; rw [gd_mono h]; rfl
theorem okV_tup {ds : List D} (h : okV (.tup ds) = true) : ds.length ≤ 1000 ∧ ∀ d ∈ ds, gd 7 d = true := by
  unfold okV at h
  rw [Bool.or_false] at h
  exact gd_tup h
theorem okV_shp {ds : List D} (h : okV (.tup ds) = true) : shp (.tup ds) = true := by
  unfold okV at h
  rw [Bool.or_false] at h
  exact gd_shp h (by decide)
def un (p : D → Bool) : List D → Option D
  | [d] => if okV d then some (.bl (p d)) else none
  | _ => none
theorem un_at (p : D → Bool) {d : D} (h : okV d = true) : un p [d] = some (.bl (p d)) := by
  show (if okV d = true then some (D.bl (p d)) else none) = _
  rw [if_pos h]
theorem tells_un {p : D → Bool} {m : Nat} {f : M Out} (h : ∀ d, okV d = true → ∃ env', f (.fz d :: List.replicate m .un) = .ok (.rt (.bl (p d))) env') : Tells (specF (un p)) 1 (defG f m) := tells_F fun ds d hl hg => by
  match ds, hl, hg with
  | [x], _, hg =>
    replace hg : (if okV x = true then some (D.bl (p x)) else none) = some d := hg
    by_cases hx : okV x = true
    · rw [if_pos hx] at hg
      cases hg
      exact h x hx
    · rw [if_neg hx] at hg
      cases hg
def isW (d : D) (n : Int) : Bool := match d with
  | .tup (.str _ :: r) => decide ((r.length : Int) + 1 = n)
  | _ => false
def gWorded : List D → Option D
  | [d, .int n] => if okV d ∧ 1 ≤ n then some (.bl (isW d n)) else none
  | _ => none
abbrev G_is_worded := specF gWorded
theorem gW {d : D} (h : okV d = true) {n : Int} (hn : 1 ≤ n) : gWorded [d, .int n] = some (.bl (isW d n)) := by
  show (if okV d = true ∧ 1 ≤ n then some (D.bl (isW d n)) else none) = _
  rw [if_pos ⟨h, hn⟩]
theorem w1 {d : D} (h : isW d 1 = true) : ∃ x, d = .tup [.str x] := by
  unfold isW at h
  split at h
  · rename_i x r
    have := of_decide_eq_true h
    cases r with
    | nil => exact ⟨x, rfl⟩
    | cons a r => rw [List.length_cons] at this; omega
  · cases h
theorem w2 {d : D} (h : isW d 2 = true) : ∃ x y, d = .tup [.str x, y] := by
  unfold isW at h
  split at h
  · rename_i x r
    have := of_decide_eq_true h
    match r with
    | [] => rw [List.length_nil] at this; omega
    | [y] => exact ⟨x, y, rfl⟩
    | _ :: _ :: _ => rw [List.length_cons, List.length_cons] at this; omega
  · cases h
theorem w3 {d : D} (h : isW d 3 = true) : ∃ x y z, d = .tup [.str x, y, z] := by
  unfold isW at h
  split at h
  · rename_i x r
    have := of_decide_eq_true h
    match r with
    | [] => rw [List.length_nil] at this; omega
    | [y] => rw [List.length_cons, List.length_nil] at this; omega
    | [y, z] => exact ⟨x, y, z, rfl⟩
    | _ :: _ :: _ :: _ => rw [List.length_cons, List.length_cons, List.length_cons] at this; omega
  · cases h
def shortB : D → Bool
  | .tup [.str x] => decide (x ∈ wPLAIN)
  | .tup [.str x, y] => decide (x = "start") && nameB y
  | _ => false
def isTup : D → Bool
  | .tup _ => true
  | _ => false
def askB : D → Bool
  | .tup [.str x, y, z] => decide (x = "ask") && (nameB y && isTup z)
  | _ => false
def outsB : D → Bool
  | .tup zs => decide (zs.length ≤ 4) && zs.all shortB
  | _ => false
def itemB : D → Bool
  | .tup [.str x] => decide (x ∈ wPLAIN) || decide (x ∈ wOPENING)
  | .tup [.str x, y] => decide (x = "start") && nameB y
  | .tup [.str x, y, z] => decide (x = "ask") && (nameB y && (isTup z && outsB z))
  | _ => false
def wMARKS : List Str := ["mark", "bar", "forget", "idle"]
def stepB : D → Bool
  | .tup [.str x] => decide (x ∈ wALONE)
  | .tup [.str x, y] => decide (x ∈ wMARKS) && nameB y
  | _ => false
def headIn (ws : List Str) : D → Bool
  | .tup (.str x :: _) => decide (x ∈ ws)
  | _ => false
def useB (d : D) : Bool := (itemB d && headIn wUSING d) || (stepB d && headIn wPULLING d)
abbrev G_is_short := specF (un shortB)
abbrev G_is_asking := specF (un askB)
abbrev G_is_item := specF (un itemB)
abbrev G_is_step := specF (un stepB)
abbrev G_is_use := specF (un useB)
theorem no12 {d : D} (h1 : isW d 1 = false) (h2 : isW d 2 = false) : shortB d = false ∧ stepB d = false := by
  match d, h1, h2 with
  | .tup [.str x], h1, _ => cases h1
  | .tup [.str x, y], _, h2 => cases h2
  | .tup (.str x :: y :: z :: r), _, _ => exact ⟨rfl, rfl⟩
  | .tup [], _, _ => exact ⟨rfl, rfl⟩
  | .tup (.non :: _), _, _ | .tup (.bl _ :: _), _, _ | .tup (.int _ :: _), _, _ | .tup (.lst _ :: _), _, _ | .tup (.tup _ :: _), _, _ | .tup (.dct _ :: _), _, _ | .tup (.obj _ _ :: _), _, _ | .tup (.cls _ :: _), _, _ => exact ⟨rfl, rfl⟩
  | .non, _, _ | .bl _, _, _ | .int _, _, _ | .str _, _, _ | .lst _, _, _ | .dct _, _, _ | .obj _ _, _, _ | .cls _, _, _ => exact ⟨rfl, rfl⟩
theorem no3 {d : D} (h3 : isW d 3 = false) : askB d = false := by
  unfold askB
  split
  · cases h3
  · rfl
theorem e_ix0 (a : D) (r : List D) : ixG (.tup (a :: r)) (.int 0) = some a := e_ixT (n := 0) rfl rfl
theorem e_ix1 (a b : D) (r : List D) : ixG (.tup (a :: b :: r)) (.int 1) = some b := e_ixT (n := 1) rfl rfl
theorem e_ix2 (a b c : D) (r : List D) : ixG (.tup (a :: b :: c :: r)) (.int 2) = some c := e_ixT (n := 2) rfl rfl

abbrev s_is_worded : Stmt := topS 32
theorem sc_is_worded : FnScope ["value", "size"] ["value", "size"] (defScope s_is_worded) := ⟨rfl, rfl, rfl, by decide +kernel, rfl, by decide +kernel, by decide +kernel⟩
theorem ok_is_worded {f : Addr} {fd : FuncData} (F : Fun K "is_worded" "is_worded" s_is_worded f fd) (T : Txt K mg) : FnOk P w K mg base CX0 1 f fd ["value", "size"] (spD K 2 G_is_worded) := by
  refine okD F sc_is_worded rfl (fun cdv A outer s H E hr => ⟨_, (jss_one (js_ret (j_and (j_callB call_isi cd_isi boot_isinstance T.z_isinstance (by rfl) (ja_cons (jr 0) (ja_cons (JE.rv (j_bty boot_tuple T.z_tuple (by rfl))) ja_nil))) (j_and (j_cmp (op_eqA hr.units) od_eq (JE.rv (j_callB call_len cd_len PySem.boot_len T.z_len (by rfl) (ja_cons (jr 0) ja_nil))) (jr 1) (nomark _)) (j_one (j_callB call_isi cd_isi boot_isinstance T.z_isinstance (by rfl) (ja_cons (JE.rv (j_ix (jr 0) (JE.rv j_int))) (ja_cons (JE.rv (j_bty boot_str T.z_str (by rfl))) ja_nil))))))))⟩) ?hG ?hne
  case hG =>
    refine tells_F (m := 0) fun ds d hl hg => ?_
    match ds, hl, hg with
    | [v, y], _, hg =>
      have hy : ∃ n, y = .int n := by cases y <;> first | exact ⟨_, rfl⟩ | cases hg
      obtain ⟨n, rfl⟩ := hy
      replace hg : (if okV v = true ∧ 1 ≤ n then some (D.bl (isW v n)) else none) = some d := hg
      by_cases hok : okV v = true ∧ 1 ≤ n
      · rw [if_pos hok] at hg
        · cases hg
          obtain ⟨hok, hn⟩ := hok
          match v, hok with
          | .non, _ | .bl _, _ | .int _, _ | .str _, _ | .lst _, _ | .dct _, _ => exact (by simp -implicitDefEqProofs only [List.map, List.replicate, List.append, List.cons_append, List.nil_append, List.length, a_bnd, a_ret, a_nope, a_lft, a_rdV, a_getF, a_lookF, a_lookS, a_stillF, a_stillS, a_asRv, a_mop, a_seq, a_ifS, a_ifM, a_notM, a_asB1, a_andV, a_orV, a_notV, a_chain, a_consM, a_looks0, a_looks, a_stills0, a_stills, a_callM, a_callS, a_retM, a_setM, a_setO, a_drpM, a_appM, a_isOwL, a_lstM, a_tupM, a_negM, a_someM, a_slM, a_compM, a_forM, a_asS1, a_asL1, a_asT1, a_rng1, a_enum, a_repM, a_strM1, a_parM, a_iT, a_iF, a_iTr, a_iFr, if_true, if_false, Bool.false_eq_true, Bool.true_eq_false, not_true, not_false_iff, isiG_str, isiG_int, isiG_bool, isiG_tuple, isiG_list, isiG_dict, few_s, List.getElem?_cons_zero, List.getElem?_cons_succ, List.getElem?_nil, List.set_cons_zero, List.set_cons_succ, e_add, e_sub, e_lt, e_le, e_gt, e_ge, e_eqI, e_neI, e_eqS, e_neS, e_eqB, e_neB, e_isB, e_notB, e_lenL, e_lenT, e_in1, e_notIn1, e_max, e_min, e_intI, e_intB, Bool.not_true, Bool.not_false, decide_true, decide_false, Nat.reduceAdd]; exact ⟨_, rfl⟩)
          | .obj _ _, hok | .cls _, hok => exact (by cases hok)
          | .tup [], _ =>
            have : ¬ ((0 : Nat) : Int) = n := by omega
            simp -implicitDefEqProofs only [List.map, List.replicate, List.append, List.cons_append, List.nil_append, List.length, a_bnd, a_ret, a_nope, a_lft, a_rdV, a_getF, a_lookF, a_lookS, a_stillF, a_stillS, a_asRv, a_mop, a_seq, a_ifS, a_ifM, a_notM, a_asB1, a_andV, a_orV, a_notV, a_chain, a_consM, a_looks0, a_looks, a_stills0, a_stills, a_callM, a_callS, a_retM, a_setM, a_setO, a_drpM, a_appM, a_isOwL, a_lstM, a_tupM, a_negM, a_someM, a_slM, a_compM, a_forM, a_asS1, a_asL1, a_asT1, a_rng1, a_enum, a_repM, a_strM1, a_parM, a_iT, a_iF, a_iTr, a_iFr, if_true, if_false, Bool.false_eq_true, Bool.true_eq_false, not_true, not_false_iff, isiG_str, isiG_int, isiG_bool, isiG_tuple, isiG_list, isiG_dict, few_s, List.getElem?_cons_zero, List.getElem?_cons_succ, List.getElem?_nil, List.set_cons_zero, List.set_cons_succ, e_add, e_sub, e_lt, e_le, e_gt, e_ge, e_eqI, e_neI, e_eqS, e_neS, e_eqB, e_neB, e_isB, e_notB, e_lenL, e_lenT, e_in1, e_notIn1, e_max, e_min, e_intI, e_intB, Bool.not_true, Bool.not_false, decide_true, decide_false, Nat.reduceAdd, this]
            exact ⟨_, rfl⟩
          | .tup (a :: r), hok =>
            have ha := (okV_tup hok).2 a (by simp)
            by_cases hl : ((a :: r).length : Int) = n
            · have hl1 : (((r.length + 1 : Nat)) : Int) = n := hl
              have hl2 : (r.length : Int) + 1 = n := by rw [List.length_cons] at hl; omega
              match a, ha with
              | .non, _ | .bl _, _ | .int _, _ | .lst _, _ | .tup _, _ => exact (by simp -implicitDefEqProofs only [List.map, List.replicate, List.append, List.cons_append, List.nil_append, List.length, a_bnd, a_ret, a_nope, a_lft, a_rdV, a_getF, a_lookF, a_lookS, a_stillF, a_stillS, a_asRv, a_mop, a_seq, a_ifS, a_ifM, a_notM, a_asB1, a_andV, a_orV, a_notV, a_chain, a_consM, a_looks0, a_looks, a_stills0, a_stills, a_callM, a_callS, a_retM, a_setM, a_setO, a_drpM, a_appM, a_isOwL, a_lstM, a_tupM, a_negM, a_someM, a_slM, a_compM, a_forM, a_asS1, a_asL1, a_asT1, a_rng1, a_enum, a_repM, a_strM1, a_parM, a_iT, a_iF, a_iTr, a_iFr, if_true, if_false, Bool.false_eq_true, Bool.true_eq_false, not_true, not_false_iff, isiG_str, isiG_int, isiG_bool, isiG_tuple, isiG_list, isiG_dict, few_s, List.getElem?_cons_zero, List.getElem?_cons_succ, List.getElem?_nil, List.set_cons_zero, List.set_cons_succ, e_add, e_sub, e_lt, e_le, e_gt, e_ge, e_eqI, e_neI, e_eqS, e_neS, e_eqB, e_neB, e_isB, e_notB, e_lenL, e_lenT, e_in1, e_notIn1, e_max, e_min, e_intI, e_intB, Bool.not_true, Bool.not_false, decide_true, decide_false, Nat.reduceAdd, hl1, e_ix0]; exact ⟨_, rfl⟩)
              | .obj _ _, ha | .cls _, ha | .dct _, ha => exact (by cases ha)
              | .str s, _ =>
                simp -implicitDefEqProofs only [List.map, List.replicate, List.append, List.cons_append, List.nil_append, List.length, a_bnd, a_ret, a_nope, a_lft, a_rdV, a_getF, a_lookF, a_lookS, a_stillF, a_stillS, a_asRv, a_mop, a_seq, a_ifS, a_ifM, a_notM, a_asB1, a_andV, a_orV, a_notV, a_chain, a_consM, a_looks0, a_looks, a_stills0, a_stills, a_callM, a_callS, a_retM, a_setM, a_setO, a_drpM, a_appM, a_isOwL, a_lstM, a_tupM, a_negM, a_someM, a_slM, a_compM, a_forM, a_asS1, a_asL1, a_asT1, a_rng1, a_enum, a_repM, a_strM1, a_parM, a_iT, a_iF, a_iTr, a_iFr, if_true, if_false, Bool.false_eq_true, Bool.true_eq_false, not_true, not_false_iff, isiG_str, isiG_int, isiG_bool, isiG_tuple, isiG_list, isiG_dict, few_s, List.getElem?_cons_zero, List.getElem?_cons_succ, List.getElem?_nil, List.set_cons_zero, List.set_cons_succ, e_add, e_sub, e_lt, e_le, e_gt, e_ge, e_eqI, e_neI, e_eqS, e_neS, e_eqB, e_neB, e_isB, e_notB, e_lenL, e_lenT, e_in1, e_notIn1, e_max, e_min, e_intI, e_intB, Bool.not_true, Bool.not_false, decide_true, decide_false, Nat.reduceAdd, hl1, e_ix0, isW, hl2]
                exact ⟨_, rfl⟩
            · have hl1 : ¬ (((r.length + 1 : Nat)) : Int) = n := hl
              have hl2 : ¬ (r.length : Int) + 1 = n := by rw [List.length_cons] at hl; omega
              have hw : isW (.tup (a :: r)) n = false := by
                unfold isW
                split
                · rename_i h; cases h; exact decide_eq_false hl2
                · rfl
              simp -implicitDefEqProofs only [List.map, List.replicate, List.append, List.cons_append, List.nil_append, List.length, a_bnd, a_ret, a_nope, a_lft, a_rdV, a_getF, a_lookF, a_lookS, a_stillF, a_stillS, a_asRv, a_mop, a_seq, a_ifS, a_ifM, a_notM, a_asB1, a_andV, a_orV, a_notV, a_chain, a_consM, a_looks0, a_looks, a_stills0, a_stills, a_callM, a_callS, a_retM, a_setM, a_setO, a_drpM, a_appM, a_isOwL, a_lstM, a_tupM, a_negM, a_someM, a_slM, a_compM, a_forM, a_asS1, a_asL1, a_asT1, a_rng1, a_enum, a_repM, a_strM1, a_parM, a_iT, a_iF, a_iTr, a_iFr, if_true, if_false, Bool.false_eq_true, Bool.true_eq_false, not_true, not_false_iff, isiG_str, isiG_int, isiG_bool, isiG_tuple, isiG_list, isiG_dict, few_s, List.getElem?_cons_zero, List.getElem?_cons_succ, List.getElem?_nil, List.set_cons_zero, List.set_cons_succ, e_add, e_sub, e_lt, e_le, e_gt, e_ge, e_eqI, e_neI, e_eqS, e_neS, e_eqB, e_neB, e_isB, e_notB, e_lenL, e_lenT, e_in1, e_notIn1, e_max, e_min, e_intI, e_intB, Bool.not_true, Bool.not_false, decide_true, decide_false, Nat.reduceAdd, hl1, hw]
              exact ⟨_, rfl⟩
      · rw [if_neg hok] at hg
        cases hg
  case hne => exact specF_noex _

abbrev s_is_short : Stmt := topS 33
theorem sc_is_short : FnScope ["value"] ["value"] (defScope s_is_short) := ⟨rfl, rfl, rfl, by decide +kernel, rfl, by decide +kernel, by decide +kernel⟩
theorem ok_is_short {f : Addr} {fd : FuncData} (F : Fun K "is_short" "is_short" s_is_short f fd) (T : Txt K mg) (d_is_name : Dfn P w K mg base CX0 1 "is_name" 1 G_is_name) (d_is_worded : Dfn P w K mg base CX0 1 "is_worded" 2 G_is_worded) : FnOk P w K mg base CX0 2 f fd ["value"] (spD K 1 G_is_short) := by
  refine okD F sc_is_short rfl (fun cdv A outer s H E hr => ⟨_, (jss_cons (js_if (jt_val (j_call d_is_worded (hr.mono (by decide)) pass0 (by rfl) (ja_cons (JE.rv (jv 0)) (ja_cons (JE.rv j_int) ja_nil)))) (jss_one (js_ret (j_cmp (op_inA (u65 hr)) od_inA (JE.rv (j_ix (jr 0) (JE.rv j_int))) (JE.rv (j_globT T.hPLAIN (by rfl))) (by rfl)))) jss_nil)
      (jss_one (js_ret (j_and (j_call d_is_worded (hr.mono (by decide)) pass0 (by rfl) (ja_cons (JE.rv (jv 0)) (ja_cons (JE.rv j_int) ja_nil))) (j_and (j_cmp (op_eqA hr.units) od_eq (JE.rv (j_ix (jr 0) (JE.rv j_int))) (JE.rv (j_glob T.gSTART (by rfl))) (nomark _)) (j_one (j_call d_is_name (hr.mono (by decide)) pass0 (by rfl) (ja_cons (JE.rv (j_ix (jr 0) (JE.rv j_int))) ja_nil))))))))⟩) ?hG ?hne
  case hG =>
    refine tells_un (m := 0) fun d hok => ?_
    have g1 := gW hok (n := 1) (by decide)
    have g2 := gW hok (n := 2) (by decide)
    cases h1 : isW d 1 with
    | true =>
      obtain ⟨x, rfl⟩ := w1 h1
      have hi : inA (.str x) (.tup [.str "let", .str "enter", .str "leave", .str "touch", .str "use", .str "lock", .str "unlock"]) = some (.bl (decide (x ∈ wPLAIN))) := e_inT rfl
      simp -implicitDefEqProofs only [List.map, List.replicate, List.append, List.cons_append, List.nil_append, List.length, a_bnd, a_ret, a_nope, a_lft, a_rdV, a_getF, a_lookF, a_lookS, a_stillF, a_stillS, a_asRv, a_mop, a_seq, a_ifS, a_ifM, a_notM, a_asB1, a_andV, a_orV, a_notV, a_chain, a_consM, a_looks0, a_looks, a_stills0, a_stills, a_callM, a_callS, a_retM, a_setM, a_setO, a_drpM, a_appM, a_isOwL, a_lstM, a_tupM, a_negM, a_someM, a_slM, a_compM, a_forM, a_asS1, a_asL1, a_asT1, a_rng1, a_enum, a_repM, a_strM1, a_parM, a_iT, a_iF, a_iTr, a_iFr, if_true, if_false, Bool.false_eq_true, Bool.true_eq_false, not_true, not_false_iff, isiG_str, isiG_int, isiG_bool, isiG_tuple, isiG_list, isiG_dict, few_s, List.getElem?_cons_zero, List.getElem?_cons_succ, List.getElem?_nil, List.set_cons_zero, List.set_cons_succ, e_add, e_sub, e_lt, e_le, e_gt, e_ge, e_eqI, e_neI, e_eqS, e_neS, e_eqB, e_neB, e_isB, e_notB, e_lenL, e_lenT, e_in1, e_notIn1, e_max, e_min, e_intI, e_intB, Bool.not_true, Bool.not_false, decide_true, decide_false, Nat.reduceAdd, g1, h1, e_ix0, hi, shortB]
      exact ⟨_, rfl⟩
    | false =>
      cases h2 : isW d 2 with
      | true =>
        obtain ⟨x, y, rfl⟩ := w2 h2
        have gn := gName_of ((okV_tup hok).2 y (by simp))
        by_cases hx : x = "start"
        · subst hx
          simp -implicitDefEqProofs only [List.map, List.replicate, List.append, List.cons_append, List.nil_append, List.length, a_bnd, a_ret, a_nope, a_lft, a_rdV, a_getF, a_lookF, a_lookS, a_stillF, a_stillS, a_asRv, a_mop, a_seq, a_ifS, a_ifM, a_notM, a_asB1, a_andV, a_orV, a_notV, a_chain, a_consM, a_looks0, a_looks, a_stills0, a_stills, a_callM, a_callS, a_retM, a_setM, a_setO, a_drpM, a_appM, a_isOwL, a_lstM, a_tupM, a_negM, a_someM, a_slM, a_compM, a_forM, a_asS1, a_asL1, a_asT1, a_rng1, a_enum, a_repM, a_strM1, a_parM, a_iT, a_iF, a_iTr, a_iFr, if_true, if_false, Bool.false_eq_true, Bool.true_eq_false, not_true, not_false_iff, isiG_str, isiG_int, isiG_bool, isiG_tuple, isiG_list, isiG_dict, few_s, List.getElem?_cons_zero, List.getElem?_cons_succ, List.getElem?_nil, List.set_cons_zero, List.set_cons_succ, e_add, e_sub, e_lt, e_le, e_gt, e_ge, e_eqI, e_neI, e_eqS, e_neS, e_eqB, e_neB, e_isB, e_notB, e_lenL, e_lenT, e_in1, e_notIn1, e_max, e_min, e_intI, e_intB, Bool.not_true, Bool.not_false, decide_true, decide_false, Nat.reduceAdd, g1, h1, g2, h2, e_ix0, e_ix1, eq_self, gn, shortB, Bool.true_and]
          exact ⟨_, rfl⟩
        · simp -implicitDefEqProofs only [List.map, List.replicate, List.append, List.cons_append, List.nil_append, List.length, a_bnd, a_ret, a_nope, a_lft, a_rdV, a_getF, a_lookF, a_lookS, a_stillF, a_stillS, a_asRv, a_mop, a_seq, a_ifS, a_ifM, a_notM, a_asB1, a_andV, a_orV, a_notV, a_chain, a_consM, a_looks0, a_looks, a_stills0, a_stills, a_callM, a_callS, a_retM, a_setM, a_setO, a_drpM, a_appM, a_isOwL, a_lstM, a_tupM, a_negM, a_someM, a_slM, a_compM, a_forM, a_asS1, a_asL1, a_asT1, a_rng1, a_enum, a_repM, a_strM1, a_parM, a_iT, a_iF, a_iTr, a_iFr, if_true, if_false, Bool.false_eq_true, Bool.true_eq_false, not_true, not_false_iff, isiG_str, isiG_int, isiG_bool, isiG_tuple, isiG_list, isiG_dict, few_s, List.getElem?_cons_zero, List.getElem?_cons_succ, List.getElem?_nil, List.set_cons_zero, List.set_cons_succ, e_add, e_sub, e_lt, e_le, e_gt, e_ge, e_eqI, e_neI, e_eqS, e_neS, e_eqB, e_neB, e_isB, e_notB, e_lenL, e_lenT, e_in1, e_notIn1, e_max, e_min, e_intI, e_intB, Bool.not_true, Bool.not_false, decide_true, decide_false, Nat.reduceAdd, g1, h1, g2, h2, e_ix0, e_ix1, hx, gn, shortB, Bool.false_and]
          exact ⟨_, rfl⟩
      | false =>
        simp -implicitDefEqProofs only [List.map, List.replicate, List.append, List.cons_append, List.nil_append, List.length, a_bnd, a_ret, a_nope, a_lft, a_rdV, a_getF, a_lookF, a_lookS, a_stillF, a_stillS, a_asRv, a_mop, a_seq, a_ifS, a_ifM, a_notM, a_asB1, a_andV, a_orV, a_notV, a_chain, a_consM, a_looks0, a_looks, a_stills0, a_stills, a_callM, a_callS, a_retM, a_setM, a_setO, a_drpM, a_appM, a_isOwL, a_lstM, a_tupM, a_negM, a_someM, a_slM, a_compM, a_forM, a_asS1, a_asL1, a_asT1, a_rng1, a_enum, a_repM, a_strM1, a_parM, a_iT, a_iF, a_iTr, a_iFr, if_true, if_false, Bool.false_eq_true, Bool.true_eq_false, not_true, not_false_iff, isiG_str, isiG_int, isiG_bool, isiG_tuple, isiG_list, isiG_dict, few_s, List.getElem?_cons_zero, List.getElem?_cons_succ, List.getElem?_nil, List.set_cons_zero, List.set_cons_succ, e_add, e_sub, e_lt, e_le, e_gt, e_ge, e_eqI, e_neI, e_eqS, e_neS, e_eqB, e_neB, e_isB, e_notB, e_lenL, e_lenT, e_in1, e_notIn1, e_max, e_min, e_intI, e_intB, Bool.not_true, Bool.not_false, decide_true, decide_false, Nat.reduceAdd, g1, h1, g2, h2, (no12 h1 h2).1]
        exact ⟨_, rfl⟩
  case hne => exact specF_noex _

abbrev s_is_asking : Stmt := topS 34
theorem sc_is_asking : FnScope ["value"] ["value"] (defScope s_is_asking) := ⟨rfl, rfl, rfl, by decide +kernel, rfl, by decide +kernel, by decide +kernel⟩
theorem ok_is_asking {f : Addr} {fd : FuncData} (F : Fun K "is_asking" "is_asking" s_is_asking f fd) (T : Txt K mg) (d_is_name : Dfn P w K mg base CX0 1 "is_name" 1 G_is_name) (d_is_worded : Dfn P w K mg base CX0 1 "is_worded" 2 G_is_worded) : FnOk P w K mg base CX0 2 f fd ["value"] (spD K 1 G_is_asking) := by
  refine okD F sc_is_asking rfl (fun cdv A outer s H E hr => ⟨_, (jss_one (js_ret (j_and (j_call d_is_worded (hr.mono (by decide)) pass0 (by rfl) (ja_cons (JE.rv (jv 0)) (ja_cons (JE.rv j_int) ja_nil))) (j_and (j_cmp (op_eqA hr.units) od_eq (JE.rv (j_ix (jr 0) (JE.rv j_int))) (JE.rv (j_glob T.gASK (by rfl))) (nomark _)) (j_and (j_call d_is_name (hr.mono (by decide)) pass0 (by rfl) (ja_cons (JE.rv (j_ix (jr 0) (JE.rv j_int))) ja_nil)) (j_one (j_callB call_isi cd_isi boot_isinstance T.z_isinstance (by rfl) (ja_cons (JE.rv (j_ix (jr 0) (JE.rv j_int))) (ja_cons (JE.rv (j_bty boot_tuple T.z_tuple (by rfl))) ja_nil)))))))))⟩) ?hG ?hne
  case hG =>
    refine tells_un (m := 0) fun d hok => ?_
    have g1 := gW hok (n := 3) (by decide)
    cases h1 : isW d 3 with
    | true =>
      obtain ⟨x, y, z, rfl⟩ := w3 h1
      have gn := gName_of ((okV_tup hok).2 y (by simp))
      have gz := (okV_tup hok).2 z (by simp)
      by_cases hx : x = "ask"
      · subst hx
        cases hy : nameB y with
        | true =>
          match z, gz with
          | .obj _ _, gz | .cls _, gz | .dct _, gz => exact (by cases gz)
          | .non, _ | .bl _, _ | .int _, _ | .lst _, _ | .tup _, _ | .str _, _ => exact (by simp -implicitDefEqProofs only [List.map, List.replicate, List.append, List.cons_append, List.nil_append, List.length, a_bnd, a_ret, a_nope, a_lft, a_rdV, a_getF, a_lookF, a_lookS, a_stillF, a_stillS, a_asRv, a_mop, a_seq, a_ifS, a_ifM, a_notM, a_asB1, a_andV, a_orV, a_notV, a_chain, a_consM, a_looks0, a_looks, a_stills0, a_stills, a_callM, a_callS, a_retM, a_setM, a_setO, a_drpM, a_appM, a_isOwL, a_lstM, a_tupM, a_negM, a_someM, a_slM, a_compM, a_forM, a_asS1, a_asL1, a_asT1, a_rng1, a_enum, a_repM, a_strM1, a_parM, a_iT, a_iF, a_iTr, a_iFr, if_true, if_false, Bool.false_eq_true, Bool.true_eq_false, not_true, not_false_iff, isiG_str, isiG_int, isiG_bool, isiG_tuple, isiG_list, isiG_dict, few_s, List.getElem?_cons_zero, List.getElem?_cons_succ, List.getElem?_nil, List.set_cons_zero, List.set_cons_succ, e_add, e_sub, e_lt, e_le, e_gt, e_ge, e_eqI, e_neI, e_eqS, e_neS, e_eqB, e_neB, e_isB, e_notB, e_lenL, e_lenT, e_in1, e_notIn1, e_max, e_min, e_intI, e_intB, Bool.not_true, Bool.not_false, decide_true, decide_false, Nat.reduceAdd, g1, h1, e_ix0, e_ix1, e_ix2, eq_self, gn, hy, askB, isTup, Bool.true_and]; exact ⟨_, rfl⟩)
        | false =>
          simp -implicitDefEqProofs only [List.map, List.replicate, List.append, List.cons_append, List.nil_append, List.length, a_bnd, a_ret, a_nope, a_lft, a_rdV, a_getF, a_lookF, a_lookS, a_stillF, a_stillS, a_asRv, a_mop, a_seq, a_ifS, a_ifM, a_notM, a_asB1, a_andV, a_orV, a_notV, a_chain, a_consM, a_looks0, a_looks, a_stills0, a_stills, a_callM, a_callS, a_retM, a_setM, a_setO, a_drpM, a_appM, a_isOwL, a_lstM, a_tupM, a_negM, a_someM, a_slM, a_compM, a_forM, a_asS1, a_asL1, a_asT1, a_rng1, a_enum, a_repM, a_strM1, a_parM, a_iT, a_iF, a_iTr, a_iFr, if_true, if_false, Bool.false_eq_true, Bool.true_eq_false, not_true, not_false_iff, isiG_str, isiG_int, isiG_bool, isiG_tuple, isiG_list, isiG_dict, few_s, List.getElem?_cons_zero, List.getElem?_cons_succ, List.getElem?_nil, List.set_cons_zero, List.set_cons_succ, e_add, e_sub, e_lt, e_le, e_gt, e_ge, e_eqI, e_neI, e_eqS, e_neS, e_eqB, e_neB, e_isB, e_notB, e_lenL, e_lenT, e_in1, e_notIn1, e_max, e_min, e_intI, e_intB, Bool.not_true, Bool.not_false, decide_true, decide_false, Nat.reduceAdd, g1, h1, e_ix0, e_ix1, e_ix2, eq_self, gn, hy, askB, Bool.true_and, Bool.false_and]
          exact ⟨_, rfl⟩
      · simp -implicitDefEqProofs only [List.map, List.replicate, List.append, List.cons_append, List.nil_append, List.length, a_bnd, a_ret, a_nope, a_lft, a_rdV, a_getF, a_lookF, a_lookS, a_stillF, a_stillS, a_asRv, a_mop, a_seq, a_ifS, a_ifM, a_notM, a_asB1, a_andV, a_orV, a_notV, a_chain, a_consM, a_looks0, a_looks, a_stills0, a_stills, a_callM, a_callS, a_retM, a_setM, a_setO, a_drpM, a_appM, a_isOwL, a_lstM, a_tupM, a_negM, a_someM, a_slM, a_compM, a_forM, a_asS1, a_asL1, a_asT1, a_rng1, a_enum, a_repM, a_strM1, a_parM, a_iT, a_iF, a_iTr, a_iFr, if_true, if_false, Bool.false_eq_true, Bool.true_eq_false, not_true, not_false_iff, isiG_str, isiG_int, isiG_bool, isiG_tuple, isiG_list, isiG_dict, few_s, List.getElem?_cons_zero, List.getElem?_cons_succ, List.getElem?_nil, List.set_cons_zero, List.set_cons_succ, e_add, e_sub, e_lt, e_le, e_gt, e_ge, e_eqI, e_neI, e_eqS, e_neS, e_eqB, e_neB, e_isB, e_notB, e_lenL, e_lenT, e_in1, e_notIn1, e_max, e_min, e_intI, e_intB, Bool.not_true, Bool.not_false, decide_true, decide_false, Nat.reduceAdd, g1, h1, e_ix0, e_ix1, hx, gn, askB, Bool.false_and]
        exact ⟨_, rfl⟩
    | false =>
      simp -implicitDefEqProofs only [List.map, List.replicate, List.append, List.cons_append, List.nil_append, List.length, a_bnd, a_ret, a_nope, a_lft, a_rdV, a_getF, a_lookF, a_lookS, a_stillF, a_stillS, a_asRv, a_mop, a_seq, a_ifS, a_ifM, a_notM, a_asB1, a_andV, a_orV, a_notV, a_chain, a_consM, a_looks0, a_looks, a_stills0, a_stills, a_callM, a_callS, a_retM, a_setM, a_setO, a_drpM, a_appM, a_isOwL, a_lstM, a_tupM, a_negM, a_someM, a_slM, a_compM, a_forM, a_asS1, a_asL1, a_asT1, a_rng1, a_enum, a_repM, a_strM1, a_parM, a_iT, a_iF, a_iTr, a_iFr, if_true, if_false, Bool.false_eq_true, Bool.true_eq_false, not_true, not_false_iff, isiG_str, isiG_int, isiG_bool, isiG_tuple, isiG_list, isiG_dict, few_s, List.getElem?_cons_zero, List.getElem?_cons_succ, List.getElem?_nil, List.set_cons_zero, List.set_cons_succ, e_add, e_sub, e_lt, e_le, e_gt, e_ge, e_eqI, e_neI, e_eqS, e_neS, e_eqB, e_neB, e_isB, e_notB, e_lenL, e_lenT, e_in1, e_notIn1, e_max, e_min, e_intI, e_intB, Bool.not_true, Bool.not_false, decide_true, decide_false, Nat.reduceAdd, g1, h1, no3 h1]
      exact ⟨_, rfl⟩
  case hne => exact specF_noex _

theorem ask_form {d : D} (h : askB d = true) : ∃ y zs, d = .tup [.str "ask", y, .tup zs] ∧ nameB y = true := by
  unfold askB at h
  split at h
  · rename_i x y z
    rw [Bool.and_eq_true, Bool.and_eq_true] at h
    have hx := of_decide_eq_true h.1
    subst hx
    have hz := h.2.2
    unfold isTup at hz
    split at hz
    · rename_i zs
      exact ⟨y, zs, rfl, h.2.1⟩
    · cases hz
  · cases h
theorem item_else {d : D} (h : askB d = false) : itemB d = (shortB d || (isW d 1 && headIn wOPENING d)) := by
  match d, h with
  | .tup [.str x], _ => show (decide (x ∈ wPLAIN) || decide (x ∈ wOPENING)) = (decide (x ∈ wPLAIN) || (true && decide (x ∈ wOPENING))); rw [Bool.true_and]
  | .tup [.str x, y], _ => show (decide (x = "start") && nameB y) = ((decide (x = "start") && nameB y) || (decide (((1 : Nat) : Int) + 1 = 1) && _)); rw [decide_eq_false (show ¬ ((1 : Nat) : Int) + 1 = 1 by decide), Bool.false_and, Bool.or_false]
  | .tup [.str x, y, z], h =>
    have h : (decide (x = "ask") && (nameB y && isTup z)) = false := h
    show (decide (x = "ask") && (nameB y && (isTup z && outsB z))) = (false || (decide (((2 : Nat) : Int) + 1 = 1) && _))
    rw [decide_eq_false (show ¬ ((2 : Nat) : Int) + 1 = 1 by decide), Bool.false_and, Bool.or_false, ← Bool.and_assoc (nameB y), ← Bool.and_assoc, h, Bool.false_and]
  | .tup (.str x :: y :: z :: u :: r), _ =>
    show false = (false || (decide ((((y :: z :: u :: r).length : Nat) : Int) + 1 = 1) && _))
    rw [decide_eq_false (by rw [List.length_cons]; omega), Bool.false_and, Bool.or_false]
  | .tup [], _ => rfl
  | .tup (.non :: _), _ | .tup (.bl _ :: _), _ | .tup (.int _ :: _), _ | .tup (.lst _ :: _), _ | .tup (.tup _ :: _), _ | .tup (.dct _ :: _), _ | .tup (.obj _ _ :: _), _ | .tup (.cls _ :: _), _ => rfl
  | .non, _ | .bl _, _ | .int _, _ | .str _, _ | .lst _, _ | .dct _, _ | .obj _ _, _ | .cls _, _ => rfl
theorem item_head {d : D} (h : itemB d = true) : ∃ x r, d = .tup (.str x :: r) := by
  unfold itemB at h
  split at h <;> first | exact ⟨_, _, rfl⟩ | cases h
theorem step_head {d : D} (h : stepB d = true) : ∃ x r, d = .tup (.str x :: r) := by
  unfold stepB at h
  split at h <;> first | exact ⟨_, _, rfl⟩ | cases h

abbrev s_is_item : Stmt := topS 35
theorem sc_is_item : FnScope ["value", "inner"] ["value"] (defScope s_is_item) := ⟨rfl, rfl, rfl, by decide +kernel, rfl, by decide +kernel, by decide +kernel⟩
theorem ok_is_item {f : Addr} {fd : FuncData} (F : Fun K "is_item" "is_item" s_is_item f fd) (T : Txt K mg) (d_is_worded : Dfn P w K mg base CX0 1 "is_worded" 2 G_is_worded) (d_is_short : Dfn P w K mg base CX0 2 "is_short" 1 G_is_short) (d_is_asking : Dfn P w K mg base CX0 2 "is_asking" 1 G_is_asking) : FnOk P w K mg base CX0 3 f fd ["value"] (spD K 1 G_is_item) := by
  refine okD F sc_is_item rfl (fun cdv A outer s H E hr => ⟨_, (jss_cons (js_if (jt_val (j_call d_is_asking (hr.mono (by decide)) pass0 (by rfl) (ja_cons (JE.rv (jv 0)) ja_nil))) (jss_one (js_ret (j_and (j_cmp op_le od_le (JE.rv (j_callB call_len cd_len PySem.boot_len T.z_len (by rfl) (ja_cons (JE.rv (j_ix (jr 0) (JE.rv j_int))) ja_nil))) (JE.rv (j_glob T.gMOST_OUT (by rfl))) (nomark _)) (j_one (j_callB (cr_all rfl) cd_all boot_all T.z_all (by rfl) (ja_cons (JE.rv (JN.je (j_lc (own := [("inner", 1)]) rfl sc_is_item.nd (blkOk_by (N := ["value", "inner"]) (sc := defScope s_is_item) (by decide +kernel)) (ji_tup (j_ix (jr 0) (JE.rv j_int))) (fun _ _ _ _ _ => (jg_name (i := 1) sc_is_item.nd rfl (by first | exact Or.inl rfl | exact Or.inr rfl) (by decide))) (fun _ _ _ _ _ => jts_nil) (fun _ _ _ _ _ => (j_call d_is_short (hr.mono (by decide)) pass0 (by rfl) (ja_cons (JE.rv (jv 1)) ja_nil)))))) ja_nil)))))) jss_nil)
      (jss_one (js_ret (j_or (j_call d_is_short (hr.mono (by decide)) pass0 (by rfl) (ja_cons (JE.rv (jv 0)) ja_nil)) (j_one (j_and (j_call d_is_worded (hr.mono (by decide)) pass0 (by rfl) (ja_cons (JE.rv (jv 0)) (ja_cons (JE.rv j_int) ja_nil))) (j_one (j_cmp (op_inA (u65 hr)) od_inA (JE.rv (j_ix (jr 0) (JE.rv j_int))) (JE.rv (j_globT T.hOPENING (by rfl))) (by rfl)))))))))⟩) ?hG ?hne
  case hG =>
    refine tells_un (m := 1) fun d hok => ?_
    have g1 := un_at askB hok
    have g2 := un_at shortB hok
    have g3 := gW hok (n := 1) (by decide)
    cases h1 : askB d with
    | true =>
      obtain ⟨y, zs, rfl, hy⟩ := ask_form h1
      have hzs := gd_tup ((okV_tup hok).2 (.tup zs) (by simp))
      by_cases hl : (zs.length : Int) ≤ 4
      · have hc : ∀ (h : D → Fm → Option Fm) (hh : h = fun d env => some (env.set 1 (.fz d))), compA [1] h (DL.ret true) (callF 1 G_is_short (consM (asRv (getF 1)) (DL.ret []))) zs [.fz (.tup [.str "ask", y, .tup zs]), .un] = .ok (.lst (zs.map fun z => .bl (shortB z))) [.fz (.tup [.str "ask", y, .tup zs]), .un] := by
          rintro _ rfl
          refine compA_mapD (fun z => .bl (shortB z)) _ rfl (szk (by omega)) fun z hz => ?_
          have gz := un_at shortB (okV_gd (gd_mono (hzs.2 z hz)))
          refine ⟨[.fz (.tup [.str "ask", y, .tup zs]), .fz z], [.fz (.tup [.str "ask", y, .tup zs]), .fz z], [.fz (.tup [.str "ask", y, .tup zs]), .fz z], rfl, rfl, ?_, rfl⟩
          simp -implicitDefEqProofs only [List.map, List.replicate, List.append, List.cons_append, List.nil_append, List.length, a_bnd, a_ret, a_nope, a_lft, a_rdV, a_getF, a_lookF, a_lookS, a_stillF, a_stillS, a_asRv, a_mop, a_seq, a_ifS, a_ifM, a_notM, a_asB1, a_andV, a_orV, a_notV, a_chain, a_consM, a_looks0, a_looks, a_stills0, a_stills, a_callM, a_callS, a_retM, a_setM, a_setO, a_drpM, a_appM, a_isOwL, a_lstM, a_tupM, a_negM, a_someM, a_slM, a_compM, a_forM, a_asS1, a_asL1, a_asT1, a_rng1, a_enum, a_repM, a_strM1, a_parM, a_iT, a_iF, a_iTr, a_iFr, if_true, if_false, Bool.false_eq_true, Bool.true_eq_false, not_true, not_false_iff, isiG_str, isiG_int, isiG_bool, isiG_tuple, isiG_list, isiG_dict, few_s, List.getElem?_cons_zero, List.getElem?_cons_succ, List.getElem?_nil, List.set_cons_zero, List.set_cons_succ, e_add, e_sub, e_lt, e_le, e_gt, e_ge, e_eqI, e_neI, e_eqS, e_neS, e_eqB, e_neB, e_isB, e_notB, e_lenL, e_lenT, e_in1, e_notIn1, e_max, e_min, e_intI, e_intB, Bool.not_true, Bool.not_false, decide_true, decide_false, Nat.reduceAdd, gz]
        have hc := hc _ rfl
        simp -implicitDefEqProofs only [List.map, List.replicate, List.append, List.cons_append, List.nil_append, List.length, a_bnd, a_ret, a_nope, a_lft, a_rdV, a_getF, a_lookF, a_lookS, a_stillF, a_stillS, a_asRv, a_mop, a_seq, a_ifS, a_ifM, a_notM, a_asB1, a_andV, a_orV, a_notV, a_chain, a_consM, a_looks0, a_looks, a_stills0, a_stills, a_callM, a_callS, a_retM, a_setM, a_setO, a_drpM, a_appM, a_isOwL, a_lstM, a_tupM, a_negM, a_someM, a_slM, a_compM, a_forM, a_asS1, a_asL1, a_asT1, a_rng1, a_enum, a_repM, a_strM1, a_parM, a_iT, a_iF, a_iTr, a_iFr, if_true, if_false, Bool.false_eq_true, Bool.true_eq_false, not_true, not_false_iff, isiG_str, isiG_int, isiG_bool, isiG_tuple, isiG_list, isiG_dict, few_s, List.getElem?_cons_zero, List.getElem?_cons_succ, List.getElem?_nil, List.set_cons_zero, List.set_cons_succ, e_add, e_sub, e_lt, e_le, e_gt, e_ge, e_eqI, e_neI, e_eqS, e_neS, e_eqB, e_neB, e_isB, e_notB, e_lenL, e_lenT, e_in1, e_notIn1, e_max, e_min, e_intI, e_intB, Bool.not_true, Bool.not_false, decide_true, decide_false, Nat.reduceAdd, g1, h1, e_ix2, hl, hc, allG, boolsOf_map, Option.map]
        refine ⟨[.fz (.tup [.str "ask", y, .tup zs]), .un], ?_⟩
        show Res.ok (Out.rt (.bl ((zs.map shortB).all id))) _ = Res.ok (Out.rt (.bl (decide ("ask" = "ask") && (nameB y && (true && (decide (zs.length ≤ 4) && zs.all shortB)))))) _
        rw [hy, decide_eq_true (show zs.length ≤ 4 by omega), List.all_map]
        rfl
      · simp -implicitDefEqProofs only [List.map, List.replicate, List.append, List.cons_append, List.nil_append, List.length, a_bnd, a_ret, a_nope, a_lft, a_rdV, a_getF, a_lookF, a_lookS, a_stillF, a_stillS, a_asRv, a_mop, a_seq, a_ifS, a_ifM, a_notM, a_asB1, a_andV, a_orV, a_notV, a_chain, a_consM, a_looks0, a_looks, a_stills0, a_stills, a_callM, a_callS, a_retM, a_setM, a_setO, a_drpM, a_appM, a_isOwL, a_lstM, a_tupM, a_negM, a_someM, a_slM, a_compM, a_forM, a_asS1, a_asL1, a_asT1, a_rng1, a_enum, a_repM, a_strM1, a_parM, a_iT, a_iF, a_iTr, a_iFr, if_true, if_false, Bool.false_eq_true, Bool.true_eq_false, not_true, not_false_iff, isiG_str, isiG_int, isiG_bool, isiG_tuple, isiG_list, isiG_dict, few_s, List.getElem?_cons_zero, List.getElem?_cons_succ, List.getElem?_nil, List.set_cons_zero, List.set_cons_succ, e_add, e_sub, e_lt, e_le, e_gt, e_ge, e_eqI, e_neI, e_eqS, e_neS, e_eqB, e_neB, e_isB, e_notB, e_lenL, e_lenT, e_in1, e_notIn1, e_max, e_min, e_intI, e_intB, Bool.not_true, Bool.not_false, decide_true, decide_false, Nat.reduceAdd, g1, h1, e_ix2, hl]
        refine ⟨[.fz (.tup [.str "ask", y, .tup zs]), .un], ?_⟩
        show Res.ok (Out.rt (.bl false)) _ = Res.ok (Out.rt (.bl (decide ("ask" = "ask") && (nameB y && (true && (decide (zs.length ≤ 4) && zs.all shortB)))))) _
        rw [hy, decide_eq_false (show ¬ zs.length ≤ 4 by omega)]
        rfl
    | false =>
      rw [item_else h1]
      cases h2 : shortB d with
      | true =>
        simp -implicitDefEqProofs only [List.map, List.replicate, List.append, List.cons_append, List.nil_append, List.length, a_bnd, a_ret, a_nope, a_lft, a_rdV, a_getF, a_lookF, a_lookS, a_stillF, a_stillS, a_asRv, a_mop, a_seq, a_ifS, a_ifM, a_notM, a_asB1, a_andV, a_orV, a_notV, a_chain, a_consM, a_looks0, a_looks, a_stills0, a_stills, a_callM, a_callS, a_retM, a_setM, a_setO, a_drpM, a_appM, a_isOwL, a_lstM, a_tupM, a_negM, a_someM, a_slM, a_compM, a_forM, a_asS1, a_asL1, a_asT1, a_rng1, a_enum, a_repM, a_strM1, a_parM, a_iT, a_iF, a_iTr, a_iFr, if_true, if_false, Bool.false_eq_true, Bool.true_eq_false, not_true, not_false_iff, isiG_str, isiG_int, isiG_bool, isiG_tuple, isiG_list, isiG_dict, few_s, List.getElem?_cons_zero, List.getElem?_cons_succ, List.getElem?_nil, List.set_cons_zero, List.set_cons_succ, e_add, e_sub, e_lt, e_le, e_gt, e_ge, e_eqI, e_neI, e_eqS, e_neS, e_eqB, e_neB, e_isB, e_notB, e_lenL, e_lenT, e_in1, e_notIn1, e_max, e_min, e_intI, e_intB, Bool.not_true, Bool.not_false, decide_true, decide_false, Nat.reduceAdd, g1, h1, g2, h2, Bool.true_or]
        exact ⟨_, rfl⟩
      | false =>
        cases h3 : isW d 1 with
        | false =>
          simp -implicitDefEqProofs only [List.map, List.replicate, List.append, List.cons_append, List.nil_append, List.length, a_bnd, a_ret, a_nope, a_lft, a_rdV, a_getF, a_lookF, a_lookS, a_stillF, a_stillS, a_asRv, a_mop, a_seq, a_ifS, a_ifM, a_notM, a_asB1, a_andV, a_orV, a_notV, a_chain, a_consM, a_looks0, a_looks, a_stills0, a_stills, a_callM, a_callS, a_retM, a_setM, a_setO, a_drpM, a_appM, a_isOwL, a_lstM, a_tupM, a_negM, a_someM, a_slM, a_compM, a_forM, a_asS1, a_asL1, a_asT1, a_rng1, a_enum, a_repM, a_strM1, a_parM, a_iT, a_iF, a_iTr, a_iFr, if_true, if_false, Bool.false_eq_true, Bool.true_eq_false, not_true, not_false_iff, isiG_str, isiG_int, isiG_bool, isiG_tuple, isiG_list, isiG_dict, few_s, List.getElem?_cons_zero, List.getElem?_cons_succ, List.getElem?_nil, List.set_cons_zero, List.set_cons_succ, e_add, e_sub, e_lt, e_le, e_gt, e_ge, e_eqI, e_neI, e_eqS, e_neS, e_eqB, e_neB, e_isB, e_notB, e_lenL, e_lenT, e_in1, e_notIn1, e_max, e_min, e_intI, e_intB, Bool.not_true, Bool.not_false, decide_true, decide_false, Nat.reduceAdd, g1, h1, g2, h2, g3, h3, Bool.false_or, Bool.false_and]
          exact ⟨_, rfl⟩
        | true =>
          obtain ⟨x, rfl⟩ := w1 h3
          have hi : inA (.str x) (.tup [.str "look", .str "hold", .str "try"]) = some (.bl (decide (x ∈ wOPENING))) := e_inT rfl
          simp -implicitDefEqProofs only [List.map, List.replicate, List.append, List.cons_append, List.nil_append, List.length, a_bnd, a_ret, a_nope, a_lft, a_rdV, a_getF, a_lookF, a_lookS, a_stillF, a_stillS, a_asRv, a_mop, a_seq, a_ifS, a_ifM, a_notM, a_asB1, a_andV, a_orV, a_notV, a_chain, a_consM, a_looks0, a_looks, a_stills0, a_stills, a_callM, a_callS, a_retM, a_setM, a_setO, a_drpM, a_appM, a_isOwL, a_lstM, a_tupM, a_negM, a_someM, a_slM, a_compM, a_forM, a_asS1, a_asL1, a_asT1, a_rng1, a_enum, a_repM, a_strM1, a_parM, a_iT, a_iF, a_iTr, a_iFr, if_true, if_false, Bool.false_eq_true, Bool.true_eq_false, not_true, not_false_iff, isiG_str, isiG_int, isiG_bool, isiG_tuple, isiG_list, isiG_dict, few_s, List.getElem?_cons_zero, List.getElem?_cons_succ, List.getElem?_nil, List.set_cons_zero, List.set_cons_succ, e_add, e_sub, e_lt, e_le, e_gt, e_ge, e_eqI, e_neI, e_eqS, e_neS, e_eqB, e_neB, e_isB, e_notB, e_lenL, e_lenT, e_in1, e_notIn1, e_max, e_min, e_intI, e_intB, Bool.not_true, Bool.not_false, decide_true, decide_false, Nat.reduceAdd, g1, h1, g2, h2, g3, h3, e_ix0, hi, headIn, Bool.false_or, Bool.true_and]
          exact ⟨_, rfl⟩
  case hne => exact specF_noex _

abbrev s_is_step : Stmt := topS 36
theorem sc_is_step : FnScope ["value"] ["value"] (defScope s_is_step) := ⟨rfl, rfl, rfl, by decide +kernel, rfl, by decide +kernel, by decide +kernel⟩
theorem ok_is_step {f : Addr} {fd : FuncData} (F : Fun K "is_step" "is_step" s_is_step f fd) (T : Txt K mg) (d_is_name : Dfn P w K mg base CX0 1 "is_name" 1 G_is_name) (d_is_worded : Dfn P w K mg base CX0 1 "is_worded" 2 G_is_worded) : FnOk P w K mg base CX0 2 f fd ["value"] (spD K 1 G_is_step) := by
  refine okD F sc_is_step rfl (fun cdv A outer s H E hr => ⟨_, (jss_cons (js_if (jt_val (j_call d_is_worded (hr.mono (by decide)) pass0 (by rfl) (ja_cons (JE.rv (jv 0)) (ja_cons (JE.rv j_int) ja_nil)))) (jss_one (js_ret (j_cmp (op_inA (u65 hr)) od_inA (JE.rv (j_ix (jr 0) (JE.rv j_int))) (JE.rv (j_globT T.hALONE (by rfl))) (by rfl)))) jss_nil)
      (jss_one (js_ret (j_and (j_call d_is_worded (hr.mono (by decide)) pass0 (by rfl) (ja_cons (JE.rv (jv 0)) (ja_cons (JE.rv j_int) ja_nil))) (j_and (j_cmp (op_inA (u65 hr)) od_inA (JE.rv (j_ix (jr 0) (JE.rv j_int))) (JE.rv (j_tup (ja_cons (JE.rv (j_glob T.gMARK (by rfl))) (ja_star (j_globT T.hABOUT (by rfl)) ja_nil)))) (by rfl)) (j_one (j_call d_is_name (hr.mono (by decide)) pass0 (by rfl) (ja_cons (JE.rv (j_ix (jr 0) (JE.rv j_int))) ja_nil))))))))⟩) ?hG ?hne
  case hG =>
    refine tells_un (m := 0) fun d hok => ?_
    have g1 := gW hok (n := 1) (by decide)
    have g2 := gW hok (n := 2) (by decide)
    cases h1 : isW d 1 with
    | true =>
      obtain ⟨x, rfl⟩ := w1 h1
      have hi : inA (.str x) (.tup [.str "out", .str "wait", .str "empty", .str "down", .str "let", .str "lock", .str "unlock"]) = some (.bl (decide (x ∈ wALONE))) := e_inT rfl
      simp -implicitDefEqProofs only [List.map, List.replicate, List.append, List.cons_append, List.nil_append, List.length, a_bnd, a_ret, a_nope, a_lft, a_rdV, a_getF, a_lookF, a_lookS, a_stillF, a_stillS, a_asRv, a_mop, a_seq, a_ifS, a_ifM, a_notM, a_asB1, a_andV, a_orV, a_notV, a_chain, a_consM, a_looks0, a_looks, a_stills0, a_stills, a_callM, a_callS, a_retM, a_setM, a_setO, a_drpM, a_appM, a_isOwL, a_lstM, a_tupM, a_negM, a_someM, a_slM, a_compM, a_forM, a_asS1, a_asL1, a_asT1, a_rng1, a_enum, a_repM, a_strM1, a_parM, a_iT, a_iF, a_iTr, a_iFr, if_true, if_false, Bool.false_eq_true, Bool.true_eq_false, not_true, not_false_iff, isiG_str, isiG_int, isiG_bool, isiG_tuple, isiG_list, isiG_dict, few_s, List.getElem?_cons_zero, List.getElem?_cons_succ, List.getElem?_nil, List.set_cons_zero, List.set_cons_succ, e_add, e_sub, e_lt, e_le, e_gt, e_ge, e_eqI, e_neI, e_eqS, e_neS, e_eqB, e_neB, e_isB, e_notB, e_lenL, e_lenT, e_in1, e_notIn1, e_max, e_min, e_intI, e_intB, Bool.not_true, Bool.not_false, decide_true, decide_false, Nat.reduceAdd, g1, h1, e_ix0, hi, stepB]
      exact ⟨_, rfl⟩
    | false =>
      cases h2 : isW d 2 with
      | true =>
        obtain ⟨x, y, rfl⟩ := w2 h2
        have gn := gName_of ((okV_tup hok).2 y (by simp))
        have hi : inA (.str x) (.tup [.str "mark", .str "bar", .str "forget", .str "idle"]) = some (.bl (decide (x ∈ wMARKS))) := e_inT rfl
        cases hx : decide (x ∈ wMARKS) with
        | true =>
          simp -implicitDefEqProofs only [List.map, List.replicate, List.append, List.cons_append, List.nil_append, List.length, a_bnd, a_ret, a_nope, a_lft, a_rdV, a_getF, a_lookF, a_lookS, a_stillF, a_stillS, a_asRv, a_mop, a_seq, a_ifS, a_ifM, a_notM, a_asB1, a_andV, a_orV, a_notV, a_chain, a_consM, a_looks0, a_looks, a_stills0, a_stills, a_callM, a_callS, a_retM, a_setM, a_setO, a_drpM, a_appM, a_isOwL, a_lstM, a_tupM, a_negM, a_someM, a_slM, a_compM, a_forM, a_asS1, a_asL1, a_asT1, a_rng1, a_enum, a_repM, a_strM1, a_parM, a_iT, a_iF, a_iTr, a_iFr, if_true, if_false, Bool.false_eq_true, Bool.true_eq_false, not_true, not_false_iff, isiG_str, isiG_int, isiG_bool, isiG_tuple, isiG_list, isiG_dict, few_s, List.getElem?_cons_zero, List.getElem?_cons_succ, List.getElem?_nil, List.set_cons_zero, List.set_cons_succ, e_add, e_sub, e_lt, e_le, e_gt, e_ge, e_eqI, e_neI, e_eqS, e_neS, e_eqB, e_neB, e_isB, e_notB, e_lenL, e_lenT, e_in1, e_notIn1, e_max, e_min, e_intI, e_intB, Bool.not_true, Bool.not_false, decide_true, decide_false, Nat.reduceAdd, g1, h1, g2, h2, e_ix0, e_ix1, a_starM, a_itemsT, hi, hx, gn, stepB, Bool.true_and]
          exact ⟨_, rfl⟩
        | false =>
          simp -implicitDefEqProofs only [List.map, List.replicate, List.append, List.cons_append, List.nil_append, List.length, a_bnd, a_ret, a_nope, a_lft, a_rdV, a_getF, a_lookF, a_lookS, a_stillF, a_stillS, a_asRv, a_mop, a_seq, a_ifS, a_ifM, a_notM, a_asB1, a_andV, a_orV, a_notV, a_chain, a_consM, a_looks0, a_looks, a_stills0, a_stills, a_callM, a_callS, a_retM, a_setM, a_setO, a_drpM, a_appM, a_isOwL, a_lstM, a_tupM, a_negM, a_someM, a_slM, a_compM, a_forM, a_asS1, a_asL1, a_asT1, a_rng1, a_enum, a_repM, a_strM1, a_parM, a_iT, a_iF, a_iTr, a_iFr, if_true, if_false, Bool.false_eq_true, Bool.true_eq_false, not_true, not_false_iff, isiG_str, isiG_int, isiG_bool, isiG_tuple, isiG_list, isiG_dict, few_s, List.getElem?_cons_zero, List.getElem?_cons_succ, List.getElem?_nil, List.set_cons_zero, List.set_cons_succ, e_add, e_sub, e_lt, e_le, e_gt, e_ge, e_eqI, e_neI, e_eqS, e_neS, e_eqB, e_neB, e_isB, e_notB, e_lenL, e_lenT, e_in1, e_notIn1, e_max, e_min, e_intI, e_intB, Bool.not_true, Bool.not_false, decide_true, decide_false, Nat.reduceAdd, g1, h1, g2, h2, e_ix0, e_ix1, a_starM, a_itemsT, hi, hx, gn, stepB, Bool.false_and]
          exact ⟨_, rfl⟩
      | false =>
        simp -implicitDefEqProofs only [List.map, List.replicate, List.append, List.cons_append, List.nil_append, List.length, a_bnd, a_ret, a_nope, a_lft, a_rdV, a_getF, a_lookF, a_lookS, a_stillF, a_stillS, a_asRv, a_mop, a_seq, a_ifS, a_ifM, a_notM, a_asB1, a_andV, a_orV, a_notV, a_chain, a_consM, a_looks0, a_looks, a_stills0, a_stills, a_callM, a_callS, a_retM, a_setM, a_setO, a_drpM, a_appM, a_isOwL, a_lstM, a_tupM, a_negM, a_someM, a_slM, a_compM, a_forM, a_asS1, a_asL1, a_asT1, a_rng1, a_enum, a_repM, a_strM1, a_parM, a_iT, a_iF, a_iTr, a_iFr, if_true, if_false, Bool.false_eq_true, Bool.true_eq_false, not_true, not_false_iff, isiG_str, isiG_int, isiG_bool, isiG_tuple, isiG_list, isiG_dict, few_s, List.getElem?_cons_zero, List.getElem?_cons_succ, List.getElem?_nil, List.set_cons_zero, List.set_cons_succ, e_add, e_sub, e_lt, e_le, e_gt, e_ge, e_eqI, e_neI, e_eqS, e_neS, e_eqB, e_neB, e_isB, e_notB, e_lenL, e_lenT, e_in1, e_notIn1, e_max, e_min, e_intI, e_intB, Bool.not_true, Bool.not_false, decide_true, decide_false, Nat.reduceAdd, g1, h1, g2, h2, (no12 h1 h2).2]
        exact ⟨_, rfl⟩
  case hne => exact specF_noex _

abbrev s_is_use : Stmt := topS 37
theorem sc_is_use : FnScope ["value"] ["value"] (defScope s_is_use) := ⟨rfl, rfl, rfl, by decide +kernel, rfl, by decide +kernel, by decide +kernel⟩
theorem ok_is_use {f : Addr} {fd : FuncData} (F : Fun K "is_use" "is_use" s_is_use f fd) (T : Txt K mg) (d_is_item : Dfn P w K mg base CX0 3 "is_item" 1 G_is_item) (d_is_step : Dfn P w K mg base CX0 2 "is_step" 1 G_is_step) : FnOk P w K mg base CX0 4 f fd ["value"] (spD K 1 G_is_use) := by
  refine okD F sc_is_use rfl (fun cdv A outer s H E hr => ⟨_, (jss_cons (js_if (JW.jt (jw_and (jt_val (j_call d_is_item (hr.mono (by decide)) pass0 (by rfl) (ja_cons (JE.rv (jv 0)) ja_nil))) (jw_and1 (jt_cmp (op_inA (u65 hr)) od_inA (JE.rv (j_ix (jr 0) (JE.rv j_int))) (JE.rv (j_globT T.hUSING (by rfl))) (by rfl))))) (jss_one (js_ret j_bl)) jss_nil)
      (jss_one (js_ret (j_and (j_call d_is_step (hr.mono (by decide)) pass0 (by rfl) (ja_cons (JE.rv (jv 0)) ja_nil)) (j_one (j_cmp (op_inA (u65 hr)) od_inA (JE.rv (j_ix (jr 0) (JE.rv j_int))) (JE.rv (j_globT T.hPULLING (by rfl))) (by rfl)))))))⟩) ?hG ?hne
  case hG =>
    refine tells_un (m := 0) fun d hok => ?_
    have g1 := un_at itemB hok
    have g2 := un_at stepB hok
    cases h1 : itemB d with
    | true =>
      obtain ⟨x, r, rfl⟩ := item_head h1
      have hi : inA (.str x) (.tup [.str "hold", .str "enter", .str "leave", .str "ask", .str "use", .str "start"]) = some (.bl (decide (x ∈ wUSING))) := e_inT rfl
      have hj : inA (.str x) (.tup [.str "mark", .str "wait", .str "empty", .str "bar", .str "forget", .str "idle", .str "let"]) = some (.bl (decide (x ∈ wPULLING))) := e_inT rfl
      have hu : useB (.tup (.str x :: r)) = ((true && decide (x ∈ wUSING)) || (stepB (.tup (.str x :: r)) && decide (x ∈ wPULLING))) := by unfold useB; rw [h1]; rfl
      rw [hu]
      cases hx : decide (x ∈ wUSING) with
      | true =>
        simp -implicitDefEqProofs only [List.map, List.replicate, List.append, List.cons_append, List.nil_append, List.length, a_bnd, a_ret, a_nope, a_lft, a_rdV, a_getF, a_lookF, a_lookS, a_stillF, a_stillS, a_asRv, a_mop, a_seq, a_ifS, a_ifM, a_notM, a_asB1, a_andV, a_orV, a_notV, a_chain, a_consM, a_looks0, a_looks, a_stills0, a_stills, a_callM, a_callS, a_retM, a_setM, a_setO, a_drpM, a_appM, a_isOwL, a_lstM, a_tupM, a_negM, a_someM, a_slM, a_compM, a_forM, a_asS1, a_asL1, a_asT1, a_rng1, a_enum, a_repM, a_strM1, a_parM, a_iT, a_iF, a_iTr, a_iFr, if_true, if_false, Bool.false_eq_true, Bool.true_eq_false, not_true, not_false_iff, isiG_str, isiG_int, isiG_bool, isiG_tuple, isiG_list, isiG_dict, few_s, List.getElem?_cons_zero, List.getElem?_cons_succ, List.getElem?_nil, List.set_cons_zero, List.set_cons_succ, e_add, e_sub, e_lt, e_le, e_gt, e_ge, e_eqI, e_neI, e_eqS, e_neS, e_eqB, e_neB, e_isB, e_notB, e_lenL, e_lenT, e_in1, e_notIn1, e_max, e_min, e_intI, e_intB, Bool.not_true, Bool.not_false, decide_true, decide_false, Nat.reduceAdd, g1, h1, e_ix0, hi, hx, Bool.true_and, Bool.true_or]
        exact ⟨_, rfl⟩
      | false =>
        cases h2 : stepB (.tup (.str x :: r)) with
        | true =>
          simp -implicitDefEqProofs only [List.map, List.replicate, List.append, List.cons_append, List.nil_append, List.length, a_bnd, a_ret, a_nope, a_lft, a_rdV, a_getF, a_lookF, a_lookS, a_stillF, a_stillS, a_asRv, a_mop, a_seq, a_ifS, a_ifM, a_notM, a_asB1, a_andV, a_orV, a_notV, a_chain, a_consM, a_looks0, a_looks, a_stills0, a_stills, a_callM, a_callS, a_retM, a_setM, a_setO, a_drpM, a_appM, a_isOwL, a_lstM, a_tupM, a_negM, a_someM, a_slM, a_compM, a_forM, a_asS1, a_asL1, a_asT1, a_rng1, a_enum, a_repM, a_strM1, a_parM, a_iT, a_iF, a_iTr, a_iFr, if_true, if_false, Bool.false_eq_true, Bool.true_eq_false, not_true, not_false_iff, isiG_str, isiG_int, isiG_bool, isiG_tuple, isiG_list, isiG_dict, few_s, List.getElem?_cons_zero, List.getElem?_cons_succ, List.getElem?_nil, List.set_cons_zero, List.set_cons_succ, e_add, e_sub, e_lt, e_le, e_gt, e_ge, e_eqI, e_neI, e_eqS, e_neS, e_eqB, e_neB, e_isB, e_notB, e_lenL, e_lenT, e_in1, e_notIn1, e_max, e_min, e_intI, e_intB, Bool.not_true, Bool.not_false, decide_true, decide_false, Nat.reduceAdd, g1, h1, g2, h2, e_ix0, hi, hx, hj, Bool.true_and, Bool.false_or]
          exact ⟨_, rfl⟩
        | false =>
          simp -implicitDefEqProofs only [List.map, List.replicate, List.append, List.cons_append, List.nil_append, List.length, a_bnd, a_ret, a_nope, a_lft, a_rdV, a_getF, a_lookF, a_lookS, a_stillF, a_stillS, a_asRv, a_mop, a_seq, a_ifS, a_ifM, a_notM, a_asB1, a_andV, a_orV, a_notV, a_chain, a_consM, a_looks0, a_looks, a_stills0, a_stills, a_callM, a_callS, a_retM, a_setM, a_setO, a_drpM, a_appM, a_isOwL, a_lstM, a_tupM, a_negM, a_someM, a_slM, a_compM, a_forM, a_asS1, a_asL1, a_asT1, a_rng1, a_enum, a_repM, a_strM1, a_parM, a_iT, a_iF, a_iTr, a_iFr, if_true, if_false, Bool.false_eq_true, Bool.true_eq_false, not_true, not_false_iff, isiG_str, isiG_int, isiG_bool, isiG_tuple, isiG_list, isiG_dict, few_s, List.getElem?_cons_zero, List.getElem?_cons_succ, List.getElem?_nil, List.set_cons_zero, List.set_cons_succ, e_add, e_sub, e_lt, e_le, e_gt, e_ge, e_eqI, e_neI, e_eqS, e_neS, e_eqB, e_neB, e_isB, e_notB, e_lenL, e_lenT, e_in1, e_notIn1, e_max, e_min, e_intI, e_intB, Bool.not_true, Bool.not_false, decide_true, decide_false, Nat.reduceAdd, g1, h1, g2, h2, e_ix0, hi, hx, hj, Bool.false_and, Bool.and_false, Bool.false_or]
          exact ⟨_, rfl⟩
    | false =>
      unfold useB
      rw [h1, Bool.false_and, Bool.false_or]
      cases h2 : stepB d with
      | true =>
        obtain ⟨x, r, rfl⟩ := step_head h2
        have hj : inA (.str x) (.tup [.str "mark", .str "wait", .str "empty", .str "bar", .str "forget", .str "idle", .str "let"]) = some (.bl (decide (x ∈ wPULLING))) := e_inT rfl
        simp -implicitDefEqProofs only [List.map, List.replicate, List.append, List.cons_append, List.nil_append, List.length, a_bnd, a_ret, a_nope, a_lft, a_rdV, a_getF, a_lookF, a_lookS, a_stillF, a_stillS, a_asRv, a_mop, a_seq, a_ifS, a_ifM, a_notM, a_asB1, a_andV, a_orV, a_notV, a_chain, a_consM, a_looks0, a_looks, a_stills0, a_stills, a_callM, a_callS, a_retM, a_setM, a_setO, a_drpM, a_appM, a_isOwL, a_lstM, a_tupM, a_negM, a_someM, a_slM, a_compM, a_forM, a_asS1, a_asL1, a_asT1, a_rng1, a_enum, a_repM, a_strM1, a_parM, a_iT, a_iF, a_iTr, a_iFr, if_true, if_false, Bool.false_eq_true, Bool.true_eq_false, not_true, not_false_iff, isiG_str, isiG_int, isiG_bool, isiG_tuple, isiG_list, isiG_dict, few_s, List.getElem?_cons_zero, List.getElem?_cons_succ, List.getElem?_nil, List.set_cons_zero, List.set_cons_succ, e_add, e_sub, e_lt, e_le, e_gt, e_ge, e_eqI, e_neI, e_eqS, e_neS, e_eqB, e_neB, e_isB, e_notB, e_lenL, e_lenT, e_in1, e_notIn1, e_max, e_min, e_intI, e_intB, Bool.not_true, Bool.not_false, decide_true, decide_false, Nat.reduceAdd, g1, h1, g2, h2, e_ix0, hj, headIn, Bool.true_and]
        exact ⟨_, rfl⟩
      | false =>
        simp -implicitDefEqProofs only [List.map, List.replicate, List.append, List.cons_append, List.nil_append, List.length, a_bnd, a_ret, a_nope, a_lft, a_rdV, a_getF, a_lookF, a_lookS, a_stillF, a_stillS, a_asRv, a_mop, a_seq, a_ifS, a_ifM, a_notM, a_asB1, a_andV, a_orV, a_notV, a_chain, a_consM, a_looks0, a_looks, a_stills0, a_stills, a_callM, a_callS, a_retM, a_setM, a_setO, a_drpM, a_appM, a_isOwL, a_lstM, a_tupM, a_negM, a_someM, a_slM, a_compM, a_forM, a_asS1, a_asL1, a_asT1, a_rng1, a_enum, a_repM, a_strM1, a_parM, a_iT, a_iF, a_iTr, a_iFr, if_true, if_false, Bool.false_eq_true, Bool.true_eq_false, not_true, not_false_iff, isiG_str, isiG_int, isiG_bool, isiG_tuple, isiG_list, isiG_dict, few_s, List.getElem?_cons_zero, List.getElem?_cons_succ, List.getElem?_nil, List.set_cons_zero, List.set_cons_succ, e_add, e_sub, e_lt, e_le, e_gt, e_ge, e_eqI, e_neI, e_eqS, e_neS, e_eqB, e_neB, e_isB, e_notB, e_lenL, e_lenT, e_in1, e_notIn1, e_max, e_min, e_intI, e_intB, Bool.not_true, Bool.not_false, decide_true, decide_false, Nat.reduceAdd, g1, h1, g2, h2, Bool.false_and]
        exact ⟨_, rfl⟩
  case hne => exact specF_noex _

def isS : D → Bool
  | .str _ => true
  | _ => false
theorem np {d : D} (h : isTup d = false) : shortB d = false ∧ itemB d = false ∧ stepB d = false := by
  cases d <;> first | exact ⟨rfl, rfl, rfl⟩ | cases h
theorem na {a : D} {r : List D} (h : isS a = false) : shortB (.tup (a :: r)) = false ∧ itemB (.tup (a :: r)) = false ∧ stepB (.tup (a :: r)) = false := by
  cases a <;> first | exact ⟨rfl, rfl, rfl⟩ | cases h
theorem isi_nt {d : D} (hok : okV d = true) (h : isTup d = false) : isiG [d, .cls (.ty "tuple")] = some (.bl false) := by
  cases d <;> first | rfl | exact absurd h Bool.noConfusion | exact Bool.noConfusion (show false = true from hok)
theorem isi_ns {a : D} {n : Nat} (hok : gd n a = true) (h : isS a = false) : isiG [a, .cls (.ty "str")] = some (.bl false) := by
  cases n with
  | zero => cases hok
  | succ n => cases a <;> first | rfl | exact absurd h Bool.noConfusion | exact Bool.noConfusion (show false = true from hok)
theorem isS_str {a : D} (h : isS a = true) : ∃ x, a = .str x := by
  cases a <;> first | exact ⟨_, rfl⟩ | cases h
abbrev G__law_is_name := specF (un nameB)
abbrev G__law_is_inner := specF (un shortB)
abbrev G__law_is_item := specF (un itemB)
abbrev G__law_is_step := specF (un stepB)
abbrev G__law_is_used := specF (un useB)
theorem okV_str {x : Str} (h : okV (.str x) = true) : x.length ≤ sizeLine ∧ ∀ c ∈ x.cps.toList, c < 0x110000 := by
  unfold okV at h
  rw [Bool.or_false] at h
  exact ⟨szk (Nat.le_trans (gd_str h).1 (by decide)), (gd_str h).2⟩

abbrev s__law_is_name : Stmt := topS 43
theorem sc__law_is_name : FnScope ["_law_value", "_law_sign"] ["_law_value"] (defScope s__law_is_name) := ⟨rfl, rfl, rfl, by decide +kernel, rfl, by decide +kernel, by decide +kernel⟩
theorem ok__law_is_name {f : Addr} {fd : FuncData} (F : Fun K "_law_is_name" "_law_is_name" s__law_is_name f fd) (T : Txt K mg) : FnOk P w K mg base CX0 1 f fd ["_law_value"] (spD K 1 G__law_is_name) := by
  refine okD F sc__law_is_name rfl (fun cdv A outer s H E hr => ⟨_, (jss_cons (js_if (JW.jt (jw_or (jt_not (jt_val (j_callB call_isi cd_isi boot_isinstance T.z_isinstance (by rfl) (ja_cons (jr 0) (ja_cons (JE.rv (j_bty boot_str T.z_str (by rfl))) ja_nil))))) (jw_or1 (jt_not (jt_chain op_le od_le op_le od_le (JE.rv j_int) (JE.rv (j_callB call_len cd_len PySem.boot_len T.z_len (by rfl) (ja_cons (jr 0) ja_nil))) (JE.rv j_int)))))) (jss_one (js_ret j_bl)) jss_nil)
      (jss_one (js_ret (j_cmp (op_eqA hr.units) od_eq (JE.rv (JN.je (j_lc (own := [("_law_sign", 1)]) rfl sc__law_is_name.nd (blkOk_by (N := ["_law_value", "_law_sign"]) (sc := defScope s__law_is_name) (by decide +kernel)) (ji_str (jv 0)) (fun _ _ _ _ _ => (jg_name (i := 1) sc__law_is_name.nd rfl (by first | exact Or.inl rfl | exact Or.inr rfl) (by decide))) (fun _ _ _ _ _ => (jts_one (jt_cmp (op_notInA (u65 hr)) od_notInA (jr 1) (JE.rv j_str) (by rfl)))) (fun _ _ _ _ _ => (jv 1))))) (JE.rv (JN.je (j_lst ja_nil))) (nomark _)))))⟩) ?hG ?hne
  case hG =>
    refine tells_un (m := 1) fun d hok => ?_
    match d, hok with
    | .non, _ | .bl _, _ | .int _, _ | .tup _, _ | .lst _, _ | .dct _, _ => exact (by simp -implicitDefEqProofs only [List.map, List.replicate, List.append, List.cons_append, List.nil_append, List.length, a_bnd, a_ret, a_nope, a_lft, a_rdV, a_getF, a_lookF, a_lookS, a_stillF, a_stillS, a_asRv, a_mop, a_seq, a_ifS, a_ifM, a_notM, a_asB1, a_andV, a_orV, a_notV, a_chain, a_consM, a_looks0, a_looks, a_stills0, a_stills, a_callM, a_callS, a_retM, a_setM, a_setO, a_drpM, a_appM, a_isOwL, a_lstM, a_tupM, a_negM, a_someM, a_slM, a_compM, a_forM, a_asS1, a_asL1, a_asT1, a_rng1, a_enum, a_repM, a_strM1, a_parM, a_iT, a_iF, a_iTr, a_iFr, if_true, if_false, Bool.false_eq_true, Bool.true_eq_false, not_true, not_false_iff, isiG_str, isiG_int, isiG_bool, isiG_tuple, isiG_list, isiG_dict, few_s, List.getElem?_cons_zero, List.getElem?_cons_succ, List.getElem?_nil, List.set_cons_zero, List.set_cons_succ, e_add, e_sub, e_lt, e_le, e_gt, e_ge, e_eqI, e_neI, e_eqS, e_neS, e_eqB, e_neB, e_isB, e_notB, e_lenL, e_lenT, e_in1, e_notIn1, e_max, e_min, e_intI, e_intB, Bool.not_true, Bool.not_false, decide_true, decide_false, Nat.reduceAdd]; exact ⟨_, rfl⟩)
    | .obj _ _, hok | .cls _, hok => exact (by cases hok)
    | .str z, hok =>
      obtain ⟨hz, hc⟩ := okV_str hok
      have hl2 : z.cps.toList.length ≤ sizeLine := by rw [Array.length_toList]; exact hz
      by_cases h1 : (1 : Int) ≤ (z.length : Int)
      · by_cases h8 : (z.length : Int) ≤ 8
        · have hc0 : ∀ (h : D → Fm → Option Fm) (hh : h = fun d env => some (env.set 1 (.fz d))), compA [1] h (bnd (mop notInA (rdV 1) (asRv (DL.ret (.str "abcdefghijklmnopqrstuvwxyz")))) asB) (getF 1) (chars z) [.fz (.str z), .un] = .ok (.lst ((z.cps.toList.filter fun c => !letterB c).map fun c => .str ⟨#[c]⟩)) [.fz (.str z), .un] := by
            rintro _ rfl
            unfold chars
            refine compA_filter (fun c => !letterB c) (fun c => .str ⟨#[c]⟩) [.fz (.str z), .un] rfl hl2 fun c _ => ?_
            exact ⟨_, [.fz (.str z), .fz (.str ⟨#[c]⟩)], rfl, rfl, fun _ => rfl, fun _ => ⟨_, rfl, rfl⟩⟩
          have hc0 := hc0 _ rfl
          have hf := e_nilL (shp_chars (z.cps.toList.filter fun c => !letterB c) fun c hc' => hc c ((List.mem_filter.mp hc').1))
          simp -implicitDefEqProofs only [List.map, List.replicate, List.append, List.cons_append, List.nil_append, List.length, a_bnd, a_ret, a_nope, a_lft, a_rdV, a_getF, a_lookF, a_lookS, a_stillF, a_stillS, a_asRv, a_mop, a_seq, a_ifS, a_ifM, a_notM, a_asB1, a_andV, a_orV, a_notV, a_chain, a_consM, a_looks0, a_looks, a_stills0, a_stills, a_callM, a_callS, a_retM, a_setM, a_setO, a_drpM, a_appM, a_isOwL, a_lstM, a_tupM, a_negM, a_someM, a_slM, a_compM, a_forM, a_asS1, a_asL1, a_asT1, a_rng1, a_enum, a_repM, a_strM1, a_parM, a_iT, a_iF, a_iTr, a_iFr, if_true, if_false, Bool.false_eq_true, Bool.true_eq_false, not_true, not_false_iff, isiG_str, isiG_int, isiG_bool, isiG_tuple, isiG_list, isiG_dict, few_s, List.getElem?_cons_zero, List.getElem?_cons_succ, List.getElem?_nil, List.set_cons_zero, List.set_cons_succ, e_add, e_sub, e_lt, e_le, e_gt, e_ge, e_eqI, e_neI, e_eqS, e_neS, e_eqB, e_neB, e_isB, e_notB, e_lenL, e_lenT, e_in1, e_notIn1, e_max, e_min, e_intI, e_intB, Bool.not_true, Bool.not_false, decide_true, decide_false, Nat.reduceAdd, e_lenS hz, h1, h8, hc0, hf]
          refine ⟨[.fz (.str z), .un], ?_⟩
          show _ = Res.ok (Out.rt (.bl (decide (1 ≤ z.length ∧ z.length ≤ 8) && z.cps.toList.all letterB))) _
          rw [decide_eq_true (show 1 ≤ z.length ∧ z.length ≤ 8 by omega), Bool.true_and]
          congr 3
          rw [List.isEmpty_map]
          by_cases h : z.cps.toList.all letterB = true
          · rw [h, List.isEmpty_iff, List.filter_eq_nil_iff]
            intro c hc
            rw [List.all_eq_true.mp h c hc]; decide
          · have h' : z.cps.toList.all letterB = false := by simpa using h
            rw [h', ← Bool.not_eq_true, List.isEmpty_iff, List.filter_eq_nil_iff]
            intro hn
            apply h
            rw [List.all_eq_true]
            intro c hc
            have := hn c hc
            simpa using this
        · simp -implicitDefEqProofs only [List.map, List.replicate, List.append, List.cons_append, List.nil_append, List.length, a_bnd, a_ret, a_nope, a_lft, a_rdV, a_getF, a_lookF, a_lookS, a_stillF, a_stillS, a_asRv, a_mop, a_seq, a_ifS, a_ifM, a_notM, a_asB1, a_andV, a_orV, a_notV, a_chain, a_consM, a_looks0, a_looks, a_stills0, a_stills, a_callM, a_callS, a_retM, a_setM, a_setO, a_drpM, a_appM, a_isOwL, a_lstM, a_tupM, a_negM, a_someM, a_slM, a_compM, a_forM, a_asS1, a_asL1, a_asT1, a_rng1, a_enum, a_repM, a_strM1, a_parM, a_iT, a_iF, a_iTr, a_iFr, if_true, if_false, Bool.false_eq_true, Bool.true_eq_false, not_true, not_false_iff, isiG_str, isiG_int, isiG_bool, isiG_tuple, isiG_list, isiG_dict, few_s, List.getElem?_cons_zero, List.getElem?_cons_succ, List.getElem?_nil, List.set_cons_zero, List.set_cons_succ, e_add, e_sub, e_lt, e_le, e_gt, e_ge, e_eqI, e_neI, e_eqS, e_neS, e_eqB, e_neB, e_isB, e_notB, e_lenL, e_lenT, e_in1, e_notIn1, e_max, e_min, e_intI, e_intB, Bool.not_true, Bool.not_false, decide_true, decide_false, Nat.reduceAdd, e_lenS hz, h1, h8]
          refine ⟨[.fz (.str z), .un], ?_⟩
          show _ = Res.ok (Out.rt (.bl (decide (1 ≤ z.length ∧ z.length ≤ 8) && z.cps.toList.all letterB))) _
          rw [decide_eq_false (show ¬ (1 ≤ z.length ∧ z.length ≤ 8) by omega)]
          rfl
      · simp -implicitDefEqProofs only [List.map, List.replicate, List.append, List.cons_append, List.nil_append, List.length, a_bnd, a_ret, a_nope, a_lft, a_rdV, a_getF, a_lookF, a_lookS, a_stillF, a_stillS, a_asRv, a_mop, a_seq, a_ifS, a_ifM, a_notM, a_asB1, a_andV, a_orV, a_notV, a_chain, a_consM, a_looks0, a_looks, a_stills0, a_stills, a_callM, a_callS, a_retM, a_setM, a_setO, a_drpM, a_appM, a_isOwL, a_lstM, a_tupM, a_negM, a_someM, a_slM, a_compM, a_forM, a_asS1, a_asL1, a_asT1, a_rng1, a_enum, a_repM, a_strM1, a_parM, a_iT, a_iF, a_iTr, a_iFr, if_true, if_false, Bool.false_eq_true, Bool.true_eq_false, not_true, not_false_iff, isiG_str, isiG_int, isiG_bool, isiG_tuple, isiG_list, isiG_dict, few_s, List.getElem?_cons_zero, List.getElem?_cons_succ, List.getElem?_nil, List.set_cons_zero, List.set_cons_succ, e_add, e_sub, e_lt, e_le, e_gt, e_ge, e_eqI, e_neI, e_eqS, e_neS, e_eqB, e_neB, e_isB, e_notB, e_lenL, e_lenT, e_in1, e_notIn1, e_max, e_min, e_intI, e_intB, Bool.not_true, Bool.not_false, decide_true, decide_false, Nat.reduceAdd, e_lenS hz, h1]
        refine ⟨[.fz (.str z), .un], ?_⟩
        show _ = Res.ok (Out.rt (.bl (decide (1 ≤ z.length ∧ z.length ≤ 8) && z.cps.toList.all letterB))) _
        rw [decide_eq_false (show ¬ (1 ≤ z.length ∧ z.length ≤ 8) by omega)]
        rfl
  case hne => exact specF_noex _

abbrev s__law_is_inner : Stmt := topS 44
theorem sc__law_is_inner : FnScope ["_law_value"] ["_law_value"] (defScope s__law_is_inner) := ⟨rfl, rfl, rfl, by decide +kernel, rfl, by decide +kernel, by decide +kernel⟩
theorem ok__law_is_inner {f : Addr} {fd : FuncData} (F : Fun K "_law_is_inner" "_law_is_inner" s__law_is_inner f fd) (T : Txt K mg) (d__law_is_name : Dfn P w K mg base CX0 1 "_law_is_name" 1 G__law_is_name) : FnOk P w K mg base CX0 2 f fd ["_law_value"] (spD K 1 G__law_is_inner) := by
  refine okD F sc__law_is_inner rfl (fun cdv A outer s H E hr => ⟨_, (jss_cons (js_if (JW.jt (jw_or (jt_not (jt_val (j_callB call_isi cd_isi boot_isinstance T.z_isinstance (by rfl) (ja_cons (jr 0) (ja_cons (JE.rv (j_bty boot_tuple T.z_tuple (by rfl))) ja_nil))))) (jw_or (jt_cmp (op_eqA hr.units) od_eq (jr 0) (JE.rv (j_tup ja_nil)) (nomark _)) (jw_or1 (jt_not (jt_val (j_callB call_isi cd_isi boot_isinstance T.z_isinstance (by rfl) (ja_cons (JE.rv (j_ix (jr 0) (JE.rv j_int))) (ja_cons (JE.rv (j_bty boot_str T.z_str (by rfl))) ja_nil))))))))) (jss_one (js_ret j_bl)) jss_nil)
      (jss_cons (js_if (jt_cmp (op_eqA hr.units) od_eq (JE.rv (j_callB call_len cd_len PySem.boot_len T.z_len (by rfl) (ja_cons (jr 0) ja_nil))) (JE.rv j_int) (nomark _)) (jss_one (js_ret (j_cmp (op_inA (u65 hr)) od_inA (JE.rv (j_ix (jr 0) (JE.rv j_int))) (JE.rv (JN.je (j_lst (ja_cons (JE.rv j_str) (ja_cons (JE.rv j_str) (ja_cons (JE.rv j_str) (ja_cons (JE.rv j_str) (ja_cons (JE.rv j_str) (ja_cons (JE.rv j_str) (ja_cons (JE.rv j_str) ja_nil)))))))))) (by rfl)))) jss_nil)
      (jss_one (js_ret (j_and (j_cmp (op_eqA hr.units) od_eq (JE.rv (j_callB call_len cd_len PySem.boot_len T.z_len (by rfl) (ja_cons (jr 0) ja_nil))) (JE.rv j_int) (nomark _)) (j_and (j_cmp (op_eqA hr.units) od_eq (JE.rv (j_ix (jr 0) (JE.rv j_int))) (JE.rv j_str) (nomark _)) (j_one (j_call d__law_is_name (hr.mono (by decide)) pass0 (by rfl) (ja_cons (JE.rv (j_ix (jr 0) (JE.rv j_int))) ja_nil)))))))))⟩) ?hG ?hne
  case hG =>
    refine tells_un (m := 0) fun d hok => ?_
    have n12 : ¬ (1 : Int) = 2 := by decide
    have n21 : ¬ (2 : Int) = 1 := by decide
    have n31 : ¬ (3 : Int) = 1 := by decide
    have n32 : ¬ (3 : Int) = 2 := by decide
    have n23 : ¬ (2 : Int) = 3 := by decide
    have n11 : ((1 : Nat) : Int) = 1 := rfl
    have n22 : ((2 : Nat) : Int) = 2 := rfl
    have n33 : ((3 : Nat) : Int) = 3 := rfl
    cases ht : isTup d with
    | false =>
      have hT := (isiG_tuple d).symm.trans (isi_nt hok ht)
      rw [(np ht).1]
      simp -implicitDefEqProofs only [List.map, List.replicate, List.append, List.cons_append, List.nil_append, List.length, a_bnd, a_ret, a_nope, a_lft, a_rdV, a_getF, a_lookF, a_lookS, a_stillF, a_stillS, a_asRv, a_mop, a_seq, a_ifS, a_ifM, a_notM, a_asB1, a_andV, a_orV, a_notV, a_chain, a_consM, a_looks0, a_looks, a_stills0, a_stills, a_callM, a_callS, a_retM, a_setM, a_setO, a_drpM, a_appM, a_isOwL, a_lstM, a_tupM, a_negM, a_someM, a_slM, a_compM, a_forM, a_asS1, a_asL1, a_asT1, a_rng1, a_enum, a_repM, a_strM1, a_parM, a_iT, a_iF, a_iTr, a_iFr, if_true, if_false, Bool.false_eq_true, Bool.true_eq_false, not_true, not_false_iff, isiG_str, isiG_int, isiG_bool, isiG_tuple, isiG_list, isiG_dict, few_s, List.getElem?_cons_zero, List.getElem?_cons_succ, List.getElem?_nil, List.set_cons_zero, List.set_cons_succ, e_add, e_sub, e_lt, e_le, e_gt, e_ge, e_eqI, e_neI, e_eqS, e_neS, e_eqB, e_neB, e_isB, e_notB, e_lenL, e_lenT, e_in1, e_notIn1, e_max, e_min, e_intI, e_intB, Bool.not_true, Bool.not_false, decide_true, decide_false, Nat.reduceAdd, hT]
      exact ⟨_, rfl⟩
    | true =>
      match d, hok, ht with
      | .tup [], hok, _ =>
        have he : eqG (.tup []) (.tup []) = some (.bl true) := e_nilT shp_nilT
        simp -implicitDefEqProofs only [List.map, List.replicate, List.append, List.cons_append, List.nil_append, List.length, a_bnd, a_ret, a_nope, a_lft, a_rdV, a_getF, a_lookF, a_lookS, a_stillF, a_stillS, a_asRv, a_mop, a_seq, a_ifS, a_ifM, a_notM, a_asB1, a_andV, a_orV, a_notV, a_chain, a_consM, a_looks0, a_looks, a_stills0, a_stills, a_callM, a_callS, a_retM, a_setM, a_setO, a_drpM, a_appM, a_isOwL, a_lstM, a_tupM, a_negM, a_someM, a_slM, a_compM, a_forM, a_asS1, a_asL1, a_asT1, a_rng1, a_enum, a_repM, a_strM1, a_parM, a_iT, a_iF, a_iTr, a_iFr, if_true, if_false, Bool.false_eq_true, Bool.true_eq_false, not_true, not_false_iff, isiG_str, isiG_int, isiG_bool, isiG_tuple, isiG_list, isiG_dict, few_s, List.getElem?_cons_zero, List.getElem?_cons_succ, List.getElem?_nil, List.set_cons_zero, List.set_cons_succ, e_add, e_sub, e_lt, e_le, e_gt, e_ge, e_eqI, e_neI, e_eqS, e_neS, e_eqB, e_neB, e_isB, e_notB, e_lenL, e_lenT, e_in1, e_notIn1, e_max, e_min, e_intI, e_intB, Bool.not_true, Bool.not_false, decide_true, decide_false, Nat.reduceAdd, he]
        exact ⟨_, rfl⟩
      | .tup (a :: r), hok, _ =>
        have he : eqG (.tup (a :: r)) (.tup []) = some (.bl false) := e_nilT (okV_shp hok)
        have ga := (okV_tup hok).2 a (by simp)
        cases hs : isS a with
        | false =>
          have hS := (isiG_str a).symm.trans (isi_ns ga hs)
          rw [(na hs).1]
          simp -implicitDefEqProofs only [List.map, List.replicate, List.append, List.cons_append, List.nil_append, List.length, a_bnd, a_ret, a_nope, a_lft, a_rdV, a_getF, a_lookF, a_lookS, a_stillF, a_stillS, a_asRv, a_mop, a_seq, a_ifS, a_ifM, a_notM, a_asB1, a_andV, a_orV, a_notV, a_chain, a_consM, a_looks0, a_looks, a_stills0, a_stills, a_callM, a_callS, a_retM, a_setM, a_setO, a_drpM, a_appM, a_isOwL, a_lstM, a_tupM, a_negM, a_someM, a_slM, a_compM, a_forM, a_asS1, a_asL1, a_asT1, a_rng1, a_enum, a_repM, a_strM1, a_parM, a_iT, a_iF, a_iTr, a_iFr, if_true, if_false, Bool.false_eq_true, Bool.true_eq_false, not_true, not_false_iff, isiG_str, isiG_int, isiG_bool, isiG_tuple, isiG_list, isiG_dict, few_s, List.getElem?_cons_zero, List.getElem?_cons_succ, List.getElem?_nil, List.set_cons_zero, List.set_cons_succ, e_add, e_sub, e_lt, e_le, e_gt, e_ge, e_eqI, e_neI, e_eqS, e_neS, e_eqB, e_neB, e_isB, e_notB, e_lenL, e_lenT, e_in1, e_notIn1, e_max, e_min, e_intI, e_intB, Bool.not_true, Bool.not_false, decide_true, decide_false, Nat.reduceAdd, he, e_ix0, hS]
          exact ⟨_, rfl⟩
        | true =>
          obtain ⟨x, rfl⟩ := isS_str hs
          match r, hok, he with
          | [], hok, he =>
            have hi : inA (.str x) (.lst [.str "let", .str "enter", .str "leave", .str "touch", .str "use", .str "lock", .str "unlock"]) = some (.bl (decide (x ∈ wPLAIN))) := e_inL rfl
            simp -implicitDefEqProofs only [List.map, List.replicate, List.append, List.cons_append, List.nil_append, List.length, a_bnd, a_ret, a_nope, a_lft, a_rdV, a_getF, a_lookF, a_lookS, a_stillF, a_stillS, a_asRv, a_mop, a_seq, a_ifS, a_ifM, a_notM, a_asB1, a_andV, a_orV, a_notV, a_chain, a_consM, a_looks0, a_looks, a_stills0, a_stills, a_callM, a_callS, a_retM, a_setM, a_setO, a_drpM, a_appM, a_isOwL, a_lstM, a_tupM, a_negM, a_someM, a_slM, a_compM, a_forM, a_asS1, a_asL1, a_asT1, a_rng1, a_enum, a_repM, a_strM1, a_parM, a_iT, a_iF, a_iTr, a_iFr, if_true, if_false, Bool.false_eq_true, Bool.true_eq_false, not_true, not_false_iff, isiG_str, isiG_int, isiG_bool, isiG_tuple, isiG_list, isiG_dict, few_s, List.getElem?_cons_zero, List.getElem?_cons_succ, List.getElem?_nil, List.set_cons_zero, List.set_cons_succ, e_add, e_sub, e_lt, e_le, e_gt, e_ge, e_eqI, e_neI, e_eqS, e_neS, e_eqB, e_neB, e_isB, e_notB, e_lenL, e_lenT, e_in1, e_notIn1, e_max, e_min, e_intI, e_intB, Bool.not_true, Bool.not_false, decide_true, decide_false, Nat.reduceAdd, he, e_ix0, hi, n11, n22, n33, n12, n21, n31, n32, n23, eq_self, shortB]
            exact ⟨_, rfl⟩
          | [y], hok, he =>
            have gy := (okV_tup hok).2 y (by simp)
            have gn := un_at nameB (okV_gd gy)
            by_cases hx : x = "start"
            · subst hx
              simp -implicitDefEqProofs only [List.map, List.replicate, List.append, List.cons_append, List.nil_append, List.length, a_bnd, a_ret, a_nope, a_lft, a_rdV, a_getF, a_lookF, a_lookS, a_stillF, a_stillS, a_asRv, a_mop, a_seq, a_ifS, a_ifM, a_notM, a_asB1, a_andV, a_orV, a_notV, a_chain, a_consM, a_looks0, a_looks, a_stills0, a_stills, a_callM, a_callS, a_retM, a_setM, a_setO, a_drpM, a_appM, a_isOwL, a_lstM, a_tupM, a_negM, a_someM, a_slM, a_compM, a_forM, a_asS1, a_asL1, a_asT1, a_rng1, a_enum, a_repM, a_strM1, a_parM, a_iT, a_iF, a_iTr, a_iFr, if_true, if_false, Bool.false_eq_true, Bool.true_eq_false, not_true, not_false_iff, isiG_str, isiG_int, isiG_bool, isiG_tuple, isiG_list, isiG_dict, few_s, List.getElem?_cons_zero, List.getElem?_cons_succ, List.getElem?_nil, List.set_cons_zero, List.set_cons_succ, e_add, e_sub, e_lt, e_le, e_gt, e_ge, e_eqI, e_neI, e_eqS, e_neS, e_eqB, e_neB, e_isB, e_notB, e_lenL, e_lenT, e_in1, e_notIn1, e_max, e_min, e_intI, e_intB, Bool.not_true, Bool.not_false, decide_true, decide_false, Nat.reduceAdd, he, e_ix0, e_ix1, n11, n22, n33, n12, n21, n31, n32, n23, eq_self, gn, shortB, Bool.true_and]
              exact ⟨_, rfl⟩
            · simp -implicitDefEqProofs only [List.map, List.replicate, List.append, List.cons_append, List.nil_append, List.length, a_bnd, a_ret, a_nope, a_lft, a_rdV, a_getF, a_lookF, a_lookS, a_stillF, a_stillS, a_asRv, a_mop, a_seq, a_ifS, a_ifM, a_notM, a_asB1, a_andV, a_orV, a_notV, a_chain, a_consM, a_looks0, a_looks, a_stills0, a_stills, a_callM, a_callS, a_retM, a_setM, a_setO, a_drpM, a_appM, a_isOwL, a_lstM, a_tupM, a_negM, a_someM, a_slM, a_compM, a_forM, a_asS1, a_asL1, a_asT1, a_rng1, a_enum, a_repM, a_strM1, a_parM, a_iT, a_iF, a_iTr, a_iFr, if_true, if_false, Bool.false_eq_true, Bool.true_eq_false, not_true, not_false_iff, isiG_str, isiG_int, isiG_bool, isiG_tuple, isiG_list, isiG_dict, few_s, List.getElem?_cons_zero, List.getElem?_cons_succ, List.getElem?_nil, List.set_cons_zero, List.set_cons_succ, e_add, e_sub, e_lt, e_le, e_gt, e_ge, e_eqI, e_neI, e_eqS, e_neS, e_eqB, e_neB, e_isB, e_notB, e_lenL, e_lenT, e_in1, e_notIn1, e_max, e_min, e_intI, e_intB, Bool.not_true, Bool.not_false, decide_true, decide_false, Nat.reduceAdd, he, e_ix0, e_ix1, n11, n22, n33, n12, n21, n31, n32, n23, eq_self, hx, gn, shortB, Bool.false_and]
              exact ⟨_, rfl⟩
          | [y, z], hok, he =>
            have gy := (okV_tup hok).2 y (by simp)
            have gn := un_at nameB (okV_gd gy)
            have gz := (okV_tup hok).2 z (by simp)
            simp -implicitDefEqProofs only [List.map, List.replicate, List.append, List.cons_append, List.nil_append, List.length, a_bnd, a_ret, a_nope, a_lft, a_rdV, a_getF, a_lookF, a_lookS, a_stillF, a_stillS, a_asRv, a_mop, a_seq, a_ifS, a_ifM, a_notM, a_asB1, a_andV, a_orV, a_notV, a_chain, a_consM, a_looks0, a_looks, a_stills0, a_stills, a_callM, a_callS, a_retM, a_setM, a_setO, a_drpM, a_appM, a_isOwL, a_lstM, a_tupM, a_negM, a_someM, a_slM, a_compM, a_forM, a_asS1, a_asL1, a_asT1, a_rng1, a_enum, a_repM, a_strM1, a_parM, a_iT, a_iF, a_iTr, a_iFr, if_true, if_false, Bool.false_eq_true, Bool.true_eq_false, not_true, not_false_iff, isiG_str, isiG_int, isiG_bool, isiG_tuple, isiG_list, isiG_dict, few_s, List.getElem?_cons_zero, List.getElem?_cons_succ, List.getElem?_nil, List.set_cons_zero, List.set_cons_succ, e_add, e_sub, e_lt, e_le, e_gt, e_ge, e_eqI, e_neI, e_eqS, e_neS, e_eqB, e_neB, e_isB, e_notB, e_lenL, e_lenT, e_in1, e_notIn1, e_max, e_min, e_intI, e_intB, Bool.not_true, Bool.not_false, decide_true, decide_false, Nat.reduceAdd, he, e_ix0, n11, n22, n33, n12, n21, n31, n32, n23, eq_self, shortB]
            exact ⟨_, rfl⟩
          | y :: z :: u :: r, hok, he =>
            have hl1 : ¬ (((r.length + 1 + 1 + 1 + 1 : Nat)) : Int) = 1 := by omega
            have hl2 : ¬ (((r.length + 1 + 1 + 1 + 1 : Nat)) : Int) = 2 := by omega
            have hl3 : ¬ (((r.length + 1 + 1 + 1 + 1 : Nat)) : Int) = 3 := by omega
            simp -implicitDefEqProofs only [List.map, List.replicate, List.append, List.cons_append, List.nil_append, List.length, a_bnd, a_ret, a_nope, a_lft, a_rdV, a_getF, a_lookF, a_lookS, a_stillF, a_stillS, a_asRv, a_mop, a_seq, a_ifS, a_ifM, a_notM, a_asB1, a_andV, a_orV, a_notV, a_chain, a_consM, a_looks0, a_looks, a_stills0, a_stills, a_callM, a_callS, a_retM, a_setM, a_setO, a_drpM, a_appM, a_isOwL, a_lstM, a_tupM, a_negM, a_someM, a_slM, a_compM, a_forM, a_asS1, a_asL1, a_asT1, a_rng1, a_enum, a_repM, a_strM1, a_parM, a_iT, a_iF, a_iTr, a_iFr, if_true, if_false, Bool.false_eq_true, Bool.true_eq_false, not_true, not_false_iff, isiG_str, isiG_int, isiG_bool, isiG_tuple, isiG_list, isiG_dict, few_s, List.getElem?_cons_zero, List.getElem?_cons_succ, List.getElem?_nil, List.set_cons_zero, List.set_cons_succ, e_add, e_sub, e_lt, e_le, e_gt, e_ge, e_eqI, e_neI, e_eqS, e_neS, e_eqB, e_neB, e_isB, e_notB, e_lenL, e_lenT, e_in1, e_notIn1, e_max, e_min, e_intI, e_intB, Bool.not_true, Bool.not_false, decide_true, decide_false, Nat.reduceAdd, he, e_ix0, hl1, hl2, shortB]
            exact ⟨_, rfl⟩
  case hne => exact specF_noex _

abbrev s__law_is_step : Stmt := topS 46
theorem sc__law_is_step : FnScope ["_law_value"] ["_law_value"] (defScope s__law_is_step) := ⟨rfl, rfl, rfl, by decide +kernel, rfl, by decide +kernel, by decide +kernel⟩
theorem ok__law_is_step {f : Addr} {fd : FuncData} (F : Fun K "_law_is_step" "_law_is_step" s__law_is_step f fd) (T : Txt K mg) (d__law_is_name : Dfn P w K mg base CX0 1 "_law_is_name" 1 G__law_is_name) : FnOk P w K mg base CX0 2 f fd ["_law_value"] (spD K 1 G__law_is_step) := by
  refine okD F sc__law_is_step rfl (fun cdv A outer s H E hr => ⟨_, (jss_cons (js_if (JW.jt (jw_or (jt_not (jt_val (j_callB call_isi cd_isi boot_isinstance T.z_isinstance (by rfl) (ja_cons (jr 0) (ja_cons (JE.rv (j_bty boot_tuple T.z_tuple (by rfl))) ja_nil))))) (jw_or (jt_cmp (op_eqA hr.units) od_eq (jr 0) (JE.rv (j_tup ja_nil)) (nomark _)) (jw_or1 (jt_not (jt_val (j_callB call_isi cd_isi boot_isinstance T.z_isinstance (by rfl) (ja_cons (JE.rv (j_ix (jr 0) (JE.rv j_int))) (ja_cons (JE.rv (j_bty boot_str T.z_str (by rfl))) ja_nil))))))))) (jss_one (js_ret j_bl)) jss_nil)
      (jss_cons (js_if (jt_cmp (op_eqA hr.units) od_eq (JE.rv (j_callB call_len cd_len PySem.boot_len T.z_len (by rfl) (ja_cons (jr 0) ja_nil))) (JE.rv j_int) (nomark _)) (jss_one (js_ret (j_cmp (op_inA (u65 hr)) od_inA (JE.rv (j_ix (jr 0) (JE.rv j_int))) (JE.rv (JN.je (j_lst (ja_cons (JE.rv j_str) (ja_cons (JE.rv j_str) (ja_cons (JE.rv j_str) (ja_cons (JE.rv j_str) (ja_cons (JE.rv j_str) (ja_cons (JE.rv j_str) (ja_cons (JE.rv j_str) ja_nil)))))))))) (by rfl)))) jss_nil)
      (jss_one (js_ret (j_and (j_cmp (op_eqA hr.units) od_eq (JE.rv (j_callB call_len cd_len PySem.boot_len T.z_len (by rfl) (ja_cons (jr 0) ja_nil))) (JE.rv j_int) (nomark _)) (j_and (j_cmp (op_inA (u65 hr)) od_inA (JE.rv (j_ix (jr 0) (JE.rv j_int))) (JE.rv (JN.je (j_lst (ja_cons (JE.rv j_str) (ja_cons (JE.rv j_str) (ja_cons (JE.rv j_str) (ja_cons (JE.rv j_str) ja_nil))))))) (by rfl)) (j_one (j_call d__law_is_name (hr.mono (by decide)) pass0 (by rfl) (ja_cons (JE.rv (j_ix (jr 0) (JE.rv j_int))) ja_nil)))))))))⟩) ?hG ?hne
  case hG =>
    refine tells_un (m := 0) fun d hok => ?_
    have n12 : ¬ (1 : Int) = 2 := by decide
    have n21 : ¬ (2 : Int) = 1 := by decide
    have n31 : ¬ (3 : Int) = 1 := by decide
    have n32 : ¬ (3 : Int) = 2 := by decide
    have n23 : ¬ (2 : Int) = 3 := by decide
    have n11 : ((1 : Nat) : Int) = 1 := rfl
    have n22 : ((2 : Nat) : Int) = 2 := rfl
    have n33 : ((3 : Nat) : Int) = 3 := rfl
    cases ht : isTup d with
    | false =>
      have hT := (isiG_tuple d).symm.trans (isi_nt hok ht)
      rw [(np ht).2.2]
      simp -implicitDefEqProofs only [List.map, List.replicate, List.append, List.cons_append, List.nil_append, List.length, a_bnd, a_ret, a_nope, a_lft, a_rdV, a_getF, a_lookF, a_lookS, a_stillF, a_stillS, a_asRv, a_mop, a_seq, a_ifS, a_ifM, a_notM, a_asB1, a_andV, a_orV, a_notV, a_chain, a_consM, a_looks0, a_looks, a_stills0, a_stills, a_callM, a_callS, a_retM, a_setM, a_setO, a_drpM, a_appM, a_isOwL, a_lstM, a_tupM, a_negM, a_someM, a_slM, a_compM, a_forM, a_asS1, a_asL1, a_asT1, a_rng1, a_enum, a_repM, a_strM1, a_parM, a_iT, a_iF, a_iTr, a_iFr, if_true, if_false, Bool.false_eq_true, Bool.true_eq_false, not_true, not_false_iff, isiG_str, isiG_int, isiG_bool, isiG_tuple, isiG_list, isiG_dict, few_s, List.getElem?_cons_zero, List.getElem?_cons_succ, List.getElem?_nil, List.set_cons_zero, List.set_cons_succ, e_add, e_sub, e_lt, e_le, e_gt, e_ge, e_eqI, e_neI, e_eqS, e_neS, e_eqB, e_neB, e_isB, e_notB, e_lenL, e_lenT, e_in1, e_notIn1, e_max, e_min, e_intI, e_intB, Bool.not_true, Bool.not_false, decide_true, decide_false, Nat.reduceAdd, hT]
      exact ⟨_, rfl⟩
    | true =>
      match d, hok, ht with
      | .tup [], hok, _ =>
        have he : eqG (.tup []) (.tup []) = some (.bl true) := e_nilT shp_nilT
        simp -implicitDefEqProofs only [List.map, List.replicate, List.append, List.cons_append, List.nil_append, List.length, a_bnd, a_ret, a_nope, a_lft, a_rdV, a_getF, a_lookF, a_lookS, a_stillF, a_stillS, a_asRv, a_mop, a_seq, a_ifS, a_ifM, a_notM, a_asB1, a_andV, a_orV, a_notV, a_chain, a_consM, a_looks0, a_looks, a_stills0, a_stills, a_callM, a_callS, a_retM, a_setM, a_setO, a_drpM, a_appM, a_isOwL, a_lstM, a_tupM, a_negM, a_someM, a_slM, a_compM, a_forM, a_asS1, a_asL1, a_asT1, a_rng1, a_enum, a_repM, a_strM1, a_parM, a_iT, a_iF, a_iTr, a_iFr, if_true, if_false, Bool.false_eq_true, Bool.true_eq_false, not_true, not_false_iff, isiG_str, isiG_int, isiG_bool, isiG_tuple, isiG_list, isiG_dict, few_s, List.getElem?_cons_zero, List.getElem?_cons_succ, List.getElem?_nil, List.set_cons_zero, List.set_cons_succ, e_add, e_sub, e_lt, e_le, e_gt, e_ge, e_eqI, e_neI, e_eqS, e_neS, e_eqB, e_neB, e_isB, e_notB, e_lenL, e_lenT, e_in1, e_notIn1, e_max, e_min, e_intI, e_intB, Bool.not_true, Bool.not_false, decide_true, decide_false, Nat.reduceAdd, he]
        exact ⟨_, rfl⟩
      | .tup (a :: r), hok, _ =>
        have he : eqG (.tup (a :: r)) (.tup []) = some (.bl false) := e_nilT (okV_shp hok)
        have ga := (okV_tup hok).2 a (by simp)
        cases hs : isS a with
        | false =>
          have hS := (isiG_str a).symm.trans (isi_ns ga hs)
          rw [(na hs).2.2]
          simp -implicitDefEqProofs only [List.map, List.replicate, List.append, List.cons_append, List.nil_append, List.length, a_bnd, a_ret, a_nope, a_lft, a_rdV, a_getF, a_lookF, a_lookS, a_stillF, a_stillS, a_asRv, a_mop, a_seq, a_ifS, a_ifM, a_notM, a_asB1, a_andV, a_orV, a_notV, a_chain, a_consM, a_looks0, a_looks, a_stills0, a_stills, a_callM, a_callS, a_retM, a_setM, a_setO, a_drpM, a_appM, a_isOwL, a_lstM, a_tupM, a_negM, a_someM, a_slM, a_compM, a_forM, a_asS1, a_asL1, a_asT1, a_rng1, a_enum, a_repM, a_strM1, a_parM, a_iT, a_iF, a_iTr, a_iFr, if_true, if_false, Bool.false_eq_true, Bool.true_eq_false, not_true, not_false_iff, isiG_str, isiG_int, isiG_bool, isiG_tuple, isiG_list, isiG_dict, few_s, List.getElem?_cons_zero, List.getElem?_cons_succ, List.getElem?_nil, List.set_cons_zero, List.set_cons_succ, e_add, e_sub, e_lt, e_le, e_gt, e_ge, e_eqI, e_neI, e_eqS, e_neS, e_eqB, e_neB, e_isB, e_notB, e_lenL, e_lenT, e_in1, e_notIn1, e_max, e_min, e_intI, e_intB, Bool.not_true, Bool.not_false, decide_true, decide_false, Nat.reduceAdd, he, e_ix0, hS]
          exact ⟨_, rfl⟩
        | true =>
          obtain ⟨x, rfl⟩ := isS_str hs
          match r, hok, he with
          | [], hok, he =>
            have hi : inA (.str x) (.lst [.str "out", .str "wait", .str "empty", .str "down", .str "let", .str "lock", .str "unlock"]) = some (.bl (decide (x ∈ wALONE))) := e_inL rfl
            simp -implicitDefEqProofs only [List.map, List.replicate, List.append, List.cons_append, List.nil_append, List.length, a_bnd, a_ret, a_nope, a_lft, a_rdV, a_getF, a_lookF, a_lookS, a_stillF, a_stillS, a_asRv, a_mop, a_seq, a_ifS, a_ifM, a_notM, a_asB1, a_andV, a_orV, a_notV, a_chain, a_consM, a_looks0, a_looks, a_stills0, a_stills, a_callM, a_callS, a_retM, a_setM, a_setO, a_drpM, a_appM, a_isOwL, a_lstM, a_tupM, a_negM, a_someM, a_slM, a_compM, a_forM, a_asS1, a_asL1, a_asT1, a_rng1, a_enum, a_repM, a_strM1, a_parM, a_iT, a_iF, a_iTr, a_iFr, if_true, if_false, Bool.false_eq_true, Bool.true_eq_false, not_true, not_false_iff, isiG_str, isiG_int, isiG_bool, isiG_tuple, isiG_list, isiG_dict, few_s, List.getElem?_cons_zero, List.getElem?_cons_succ, List.getElem?_nil, List.set_cons_zero, List.set_cons_succ, e_add, e_sub, e_lt, e_le, e_gt, e_ge, e_eqI, e_neI, e_eqS, e_neS, e_eqB, e_neB, e_isB, e_notB, e_lenL, e_lenT, e_in1, e_notIn1, e_max, e_min, e_intI, e_intB, Bool.not_true, Bool.not_false, decide_true, decide_false, Nat.reduceAdd, he, e_ix0, hi, n11, n22, n33, n12, n21, n31, n32, n23, eq_self, stepB]
            exact ⟨_, rfl⟩
          | [y], hok, he =>
            have gy := (okV_tup hok).2 y (by simp)
            have gn := un_at nameB (okV_gd gy)
            have hi : inA (.str x) (.lst [.str "mark", .str "bar", .str "forget", .str "idle"]) = some (.bl (decide (x ∈ wMARKS))) := e_inL rfl
            cases hx : decide (x ∈ wMARKS) with
            | true =>
              simp -implicitDefEqProofs only [List.map, List.replicate, List.append, List.cons_append, List.nil_append, List.length, a_bnd, a_ret, a_nope, a_lft, a_rdV, a_getF, a_lookF, a_lookS, a_stillF, a_stillS, a_asRv, a_mop, a_seq, a_ifS, a_ifM, a_notM, a_asB1, a_andV, a_orV, a_notV, a_chain, a_consM, a_looks0, a_looks, a_stills0, a_stills, a_callM, a_callS, a_retM, a_setM, a_setO, a_drpM, a_appM, a_isOwL, a_lstM, a_tupM, a_negM, a_someM, a_slM, a_compM, a_forM, a_asS1, a_asL1, a_asT1, a_rng1, a_enum, a_repM, a_strM1, a_parM, a_iT, a_iF, a_iTr, a_iFr, if_true, if_false, Bool.false_eq_true, Bool.true_eq_false, not_true, not_false_iff, isiG_str, isiG_int, isiG_bool, isiG_tuple, isiG_list, isiG_dict, few_s, List.getElem?_cons_zero, List.getElem?_cons_succ, List.getElem?_nil, List.set_cons_zero, List.set_cons_succ, e_add, e_sub, e_lt, e_le, e_gt, e_ge, e_eqI, e_neI, e_eqS, e_neS, e_eqB, e_neB, e_isB, e_notB, e_lenL, e_lenT, e_in1, e_notIn1, e_max, e_min, e_intI, e_intB, Bool.not_true, Bool.not_false, decide_true, decide_false, Nat.reduceAdd, he, e_ix0, e_ix1, n11, n22, n33, n12, n21, n31, n32, n23, eq_self, hi, hx, gn, stepB, Bool.true_and]
              exact ⟨_, rfl⟩
            | false =>
              simp -implicitDefEqProofs only [List.map, List.replicate, List.append, List.cons_append, List.nil_append, List.length, a_bnd, a_ret, a_nope, a_lft, a_rdV, a_getF, a_lookF, a_lookS, a_stillF, a_stillS, a_asRv, a_mop, a_seq, a_ifS, a_ifM, a_notM, a_asB1, a_andV, a_orV, a_notV, a_chain, a_consM, a_looks0, a_looks, a_stills0, a_stills, a_callM, a_callS, a_retM, a_setM, a_setO, a_drpM, a_appM, a_isOwL, a_lstM, a_tupM, a_negM, a_someM, a_slM, a_compM, a_forM, a_asS1, a_asL1, a_asT1, a_rng1, a_enum, a_repM, a_strM1, a_parM, a_iT, a_iF, a_iTr, a_iFr, if_true, if_false, Bool.false_eq_true, Bool.true_eq_false, not_true, not_false_iff, isiG_str, isiG_int, isiG_bool, isiG_tuple, isiG_list, isiG_dict, few_s, List.getElem?_cons_zero, List.getElem?_cons_succ, List.getElem?_nil, List.set_cons_zero, List.set_cons_succ, e_add, e_sub, e_lt, e_le, e_gt, e_ge, e_eqI, e_neI, e_eqS, e_neS, e_eqB, e_neB, e_isB, e_notB, e_lenL, e_lenT, e_in1, e_notIn1, e_max, e_min, e_intI, e_intB, Bool.not_true, Bool.not_false, decide_true, decide_false, Nat.reduceAdd, he, e_ix0, e_ix1, n11, n22, n33, n12, n21, n31, n32, n23, eq_self, hi, hx, gn, stepB, Bool.false_and]
              exact ⟨_, rfl⟩
          | [y, z], hok, he =>
            have gy := (okV_tup hok).2 y (by simp)
            have gn := un_at nameB (okV_gd gy)
            have gz := (okV_tup hok).2 z (by simp)
            simp -implicitDefEqProofs only [List.map, List.replicate, List.append, List.cons_append, List.nil_append, List.length, a_bnd, a_ret, a_nope, a_lft, a_rdV, a_getF, a_lookF, a_lookS, a_stillF, a_stillS, a_asRv, a_mop, a_seq, a_ifS, a_ifM, a_notM, a_asB1, a_andV, a_orV, a_notV, a_chain, a_consM, a_looks0, a_looks, a_stills0, a_stills, a_callM, a_callS, a_retM, a_setM, a_setO, a_drpM, a_appM, a_isOwL, a_lstM, a_tupM, a_negM, a_someM, a_slM, a_compM, a_forM, a_asS1, a_asL1, a_asT1, a_rng1, a_enum, a_repM, a_strM1, a_parM, a_iT, a_iF, a_iTr, a_iFr, if_true, if_false, Bool.false_eq_true, Bool.true_eq_false, not_true, not_false_iff, isiG_str, isiG_int, isiG_bool, isiG_tuple, isiG_list, isiG_dict, few_s, List.getElem?_cons_zero, List.getElem?_cons_succ, List.getElem?_nil, List.set_cons_zero, List.set_cons_succ, e_add, e_sub, e_lt, e_le, e_gt, e_ge, e_eqI, e_neI, e_eqS, e_neS, e_eqB, e_neB, e_isB, e_notB, e_lenL, e_lenT, e_in1, e_notIn1, e_max, e_min, e_intI, e_intB, Bool.not_true, Bool.not_false, decide_true, decide_false, Nat.reduceAdd, he, e_ix0, n11, n22, n33, n12, n21, n31, n32, n23, eq_self, stepB]
            exact ⟨_, rfl⟩
          | y :: z :: u :: r, hok, he =>
            have hl1 : ¬ (((r.length + 1 + 1 + 1 + 1 : Nat)) : Int) = 1 := by omega
            have hl2 : ¬ (((r.length + 1 + 1 + 1 + 1 : Nat)) : Int) = 2 := by omega
            have hl3 : ¬ (((r.length + 1 + 1 + 1 + 1 : Nat)) : Int) = 3 := by omega
            simp -implicitDefEqProofs only [List.map, List.replicate, List.append, List.cons_append, List.nil_append, List.length, a_bnd, a_ret, a_nope, a_lft, a_rdV, a_getF, a_lookF, a_lookS, a_stillF, a_stillS, a_asRv, a_mop, a_seq, a_ifS, a_ifM, a_notM, a_asB1, a_andV, a_orV, a_notV, a_chain, a_consM, a_looks0, a_looks, a_stills0, a_stills, a_callM, a_callS, a_retM, a_setM, a_setO, a_drpM, a_appM, a_isOwL, a_lstM, a_tupM, a_negM, a_someM, a_slM, a_compM, a_forM, a_asS1, a_asL1, a_asT1, a_rng1, a_enum, a_repM, a_strM1, a_parM, a_iT, a_iF, a_iTr, a_iFr, if_true, if_false, Bool.false_eq_true, Bool.true_eq_false, not_true, not_false_iff, isiG_str, isiG_int, isiG_bool, isiG_tuple, isiG_list, isiG_dict, few_s, List.getElem?_cons_zero, List.getElem?_cons_succ, List.getElem?_nil, List.set_cons_zero, List.set_cons_succ, e_add, e_sub, e_lt, e_le, e_gt, e_ge, e_eqI, e_neI, e_eqS, e_neS, e_eqB, e_neB, e_isB, e_notB, e_lenL, e_lenT, e_in1, e_notIn1, e_max, e_min, e_intI, e_intB, Bool.not_true, Bool.not_false, decide_true, decide_false, Nat.reduceAdd, he, e_ix0, hl1, hl2, stepB]
            exact ⟨_, rfl⟩
  case hne => exact specF_noex _

abbrev s__law_is_used : Stmt := topS 47
theorem sc__law_is_used : FnScope ["_law_value"] ["_law_value"] (defScope s__law_is_used) := ⟨rfl, rfl, rfl, by decide +kernel, rfl, by decide +kernel, by decide +kernel⟩
theorem ok__law_is_used {f : Addr} {fd : FuncData} (F : Fun K "_law_is_used" "_law_is_used" s__law_is_used f fd) (T : Txt K mg) (d__law_is_step : Dfn P w K mg base CX0 2 "_law_is_step" 1 G__law_is_step) (d__law_is_item : Dfn P w K mg base CX0 3 "_law_is_item" 1 G__law_is_item) : FnOk P w K mg base CX0 4 f fd ["_law_value"] (spD K 1 G__law_is_used) := by
  refine okD F sc__law_is_used rfl (fun cdv A outer s H E hr => ⟨_, (jss_cons (js_if (JW.jt (jw_and (jt_val (j_call d__law_is_item (hr.mono (by decide)) pass0 (by rfl) (ja_cons (JE.rv (jv 0)) ja_nil))) (jw_and1 (jt_cmp (op_inA (u65 hr)) od_inA (JE.rv (j_ix (jr 0) (JE.rv j_int))) (JE.rv (JN.je (j_lst (ja_cons (JE.rv j_str) (ja_cons (JE.rv j_str) (ja_cons (JE.rv j_str) (ja_cons (JE.rv j_str) (ja_cons (JE.rv j_str) (ja_cons (JE.rv j_str) ja_nil))))))))) (by rfl))))) (jss_one (js_ret j_bl)) jss_nil)
      (jss_one (js_ret (j_and (j_call d__law_is_step (hr.mono (by decide)) pass0 (by rfl) (ja_cons (JE.rv (jv 0)) ja_nil)) (j_one (j_cmp (op_inA (u65 hr)) od_inA (JE.rv (j_ix (jr 0) (JE.rv j_int))) (JE.rv (JN.je (j_lst (ja_cons (JE.rv j_str) (ja_cons (JE.rv j_str) (ja_cons (JE.rv j_str) (ja_cons (JE.rv j_str) (ja_cons (JE.rv j_str) (ja_cons (JE.rv j_str) (ja_cons (JE.rv j_str) ja_nil)))))))))) (by rfl)))))))⟩) ?hG ?hne
  case hG =>
    refine tells_un (m := 0) fun d hok => ?_
    have g1 := un_at itemB hok
    have g2 := un_at stepB hok
    cases h1 : itemB d with
    | true =>
      obtain ⟨x, r, rfl⟩ := item_head h1
      have hi : inA (.str x) (.lst [.str "hold", .str "enter", .str "leave", .str "ask", .str "use", .str "start"]) = some (.bl (decide (x ∈ wUSING))) := e_inL rfl
      have hj : inA (.str x) (.lst [.str "mark", .str "wait", .str "empty", .str "bar", .str "forget", .str "idle", .str "let"]) = some (.bl (decide (x ∈ wPULLING))) := e_inL rfl
      have hu : useB (.tup (.str x :: r)) = ((true && decide (x ∈ wUSING)) || (stepB (.tup (.str x :: r)) && decide (x ∈ wPULLING))) := by unfold useB; rw [h1]; rfl
      rw [hu]
      cases hx : decide (x ∈ wUSING) with
      | true =>
        simp -implicitDefEqProofs only [List.map, List.replicate, List.append, List.cons_append, List.nil_append, List.length, a_bnd, a_ret, a_nope, a_lft, a_rdV, a_getF, a_lookF, a_lookS, a_stillF, a_stillS, a_asRv, a_mop, a_seq, a_ifS, a_ifM, a_notM, a_asB1, a_andV, a_orV, a_notV, a_chain, a_consM, a_looks0, a_looks, a_stills0, a_stills, a_callM, a_callS, a_retM, a_setM, a_setO, a_drpM, a_appM, a_isOwL, a_lstM, a_tupM, a_negM, a_someM, a_slM, a_compM, a_forM, a_asS1, a_asL1, a_asT1, a_rng1, a_enum, a_repM, a_strM1, a_parM, a_iT, a_iF, a_iTr, a_iFr, if_true, if_false, Bool.false_eq_true, Bool.true_eq_false, not_true, not_false_iff, isiG_str, isiG_int, isiG_bool, isiG_tuple, isiG_list, isiG_dict, few_s, List.getElem?_cons_zero, List.getElem?_cons_succ, List.getElem?_nil, List.set_cons_zero, List.set_cons_succ, e_add, e_sub, e_lt, e_le, e_gt, e_ge, e_eqI, e_neI, e_eqS, e_neS, e_eqB, e_neB, e_isB, e_notB, e_lenL, e_lenT, e_in1, e_notIn1, e_max, e_min, e_intI, e_intB, Bool.not_true, Bool.not_false, decide_true, decide_false, Nat.reduceAdd, g1, h1, e_ix0, hi, hx, Bool.true_and, Bool.true_or]
        exact ⟨_, rfl⟩
      | false =>
        cases h2 : stepB (.tup (.str x :: r)) with
        | true =>
          simp -implicitDefEqProofs only [List.map, List.replicate, List.append, List.cons_append, List.nil_append, List.length, a_bnd, a_ret, a_nope, a_lft, a_rdV, a_getF, a_lookF, a_lookS, a_stillF, a_stillS, a_asRv, a_mop, a_seq, a_ifS, a_ifM, a_notM, a_asB1, a_andV, a_orV, a_notV, a_chain, a_consM, a_looks0, a_looks, a_stills0, a_stills, a_callM, a_callS, a_retM, a_setM, a_setO, a_drpM, a_appM, a_isOwL, a_lstM, a_tupM, a_negM, a_someM, a_slM, a_compM, a_forM, a_asS1, a_asL1, a_asT1, a_rng1, a_enum, a_repM, a_strM1, a_parM, a_iT, a_iF, a_iTr, a_iFr, if_true, if_false, Bool.false_eq_true, Bool.true_eq_false, not_true, not_false_iff, isiG_str, isiG_int, isiG_bool, isiG_tuple, isiG_list, isiG_dict, few_s, List.getElem?_cons_zero, List.getElem?_cons_succ, List.getElem?_nil, List.set_cons_zero, List.set_cons_succ, e_add, e_sub, e_lt, e_le, e_gt, e_ge, e_eqI, e_neI, e_eqS, e_neS, e_eqB, e_neB, e_isB, e_notB, e_lenL, e_lenT, e_in1, e_notIn1, e_max, e_min, e_intI, e_intB, Bool.not_true, Bool.not_false, decide_true, decide_false, Nat.reduceAdd, g1, h1, g2, h2, e_ix0, hi, hx, hj, Bool.true_and, Bool.false_or]
          exact ⟨_, rfl⟩
        | false =>
          simp -implicitDefEqProofs only [List.map, List.replicate, List.append, List.cons_append, List.nil_append, List.length, a_bnd, a_ret, a_nope, a_lft, a_rdV, a_getF, a_lookF, a_lookS, a_stillF, a_stillS, a_asRv, a_mop, a_seq, a_ifS, a_ifM, a_notM, a_asB1, a_andV, a_orV, a_notV, a_chain, a_consM, a_looks0, a_looks, a_stills0, a_stills, a_callM, a_callS, a_retM, a_setM, a_setO, a_drpM, a_appM, a_isOwL, a_lstM, a_tupM, a_negM, a_someM, a_slM, a_compM, a_forM, a_asS1, a_asL1, a_asT1, a_rng1, a_enum, a_repM, a_strM1, a_parM, a_iT, a_iF, a_iTr, a_iFr, if_true, if_false, Bool.false_eq_true, Bool.true_eq_false, not_true, not_false_iff, isiG_str, isiG_int, isiG_bool, isiG_tuple, isiG_list, isiG_dict, few_s, List.getElem?_cons_zero, List.getElem?_cons_succ, List.getElem?_nil, List.set_cons_zero, List.set_cons_succ, e_add, e_sub, e_lt, e_le, e_gt, e_ge, e_eqI, e_neI, e_eqS, e_neS, e_eqB, e_neB, e_isB, e_notB, e_lenL, e_lenT, e_in1, e_notIn1, e_max, e_min, e_intI, e_intB, Bool.not_true, Bool.not_false, decide_true, decide_false, Nat.reduceAdd, g1, h1, g2, h2, e_ix0, hi, hx, hj, Bool.false_and, Bool.and_false, Bool.false_or]
          exact ⟨_, rfl⟩
    | false =>
      unfold useB
      rw [h1, Bool.false_and, Bool.false_or]
      cases h2 : stepB d with
      | true =>
        obtain ⟨x, r, rfl⟩ := step_head h2
        have hj : inA (.str x) (.lst [.str "mark", .str "wait", .str "empty", .str "bar", .str "forget", .str "idle", .str "let"]) = some (.bl (decide (x ∈ wPULLING))) := e_inL rfl
        simp -implicitDefEqProofs only [List.map, List.replicate, List.append, List.cons_append, List.nil_append, List.length, a_bnd, a_ret, a_nope, a_lft, a_rdV, a_getF, a_lookF, a_lookS, a_stillF, a_stillS, a_asRv, a_mop, a_seq, a_ifS, a_ifM, a_notM, a_asB1, a_andV, a_orV, a_notV, a_chain, a_consM, a_looks0, a_looks, a_stills0, a_stills, a_callM, a_callS, a_retM, a_setM, a_setO, a_drpM, a_appM, a_isOwL, a_lstM, a_tupM, a_negM, a_someM, a_slM, a_compM, a_forM, a_asS1, a_asL1, a_asT1, a_rng1, a_enum, a_repM, a_strM1, a_parM, a_iT, a_iF, a_iTr, a_iFr, if_true, if_false, Bool.false_eq_true, Bool.true_eq_false, not_true, not_false_iff, isiG_str, isiG_int, isiG_bool, isiG_tuple, isiG_list, isiG_dict, few_s, List.getElem?_cons_zero, List.getElem?_cons_succ, List.getElem?_nil, List.set_cons_zero, List.set_cons_succ, e_add, e_sub, e_lt, e_le, e_gt, e_ge, e_eqI, e_neI, e_eqS, e_neS, e_eqB, e_neB, e_isB, e_notB, e_lenL, e_lenT, e_in1, e_notIn1, e_max, e_min, e_intI, e_intB, Bool.not_true, Bool.not_false, decide_true, decide_false, Nat.reduceAdd, g1, h1, g2, h2, e_ix0, hj, headIn, Bool.true_and]
        exact ⟨_, rfl⟩
      | false =>
        simp -implicitDefEqProofs only [List.map, List.replicate, List.append, List.cons_append, List.nil_append, List.length, a_bnd, a_ret, a_nope, a_lft, a_rdV, a_getF, a_lookF, a_lookS, a_stillF, a_stillS, a_asRv, a_mop, a_seq, a_ifS, a_ifM, a_notM, a_asB1, a_andV, a_orV, a_notV, a_chain, a_consM, a_looks0, a_looks, a_stills0, a_stills, a_callM, a_callS, a_retM, a_setM, a_setO, a_drpM, a_appM, a_isOwL, a_lstM, a_tupM, a_negM, a_someM, a_slM, a_compM, a_forM, a_asS1, a_asL1, a_asT1, a_rng1, a_enum, a_repM, a_strM1, a_parM, a_iT, a_iF, a_iTr, a_iFr, if_true, if_false, Bool.false_eq_true, Bool.true_eq_false, not_true, not_false_iff, isiG_str, isiG_int, isiG_bool, isiG_tuple, isiG_list, isiG_dict, few_s, List.getElem?_cons_zero, List.getElem?_cons_succ, List.getElem?_nil, List.set_cons_zero, List.set_cons_succ, e_add, e_sub, e_lt, e_le, e_gt, e_ge, e_eqI, e_neI, e_eqS, e_neS, e_eqB, e_neB, e_isB, e_notB, e_lenL, e_lenT, e_in1, e_notIn1, e_max, e_min, e_intI, e_intB, Bool.not_true, Bool.not_false, decide_true, decide_false, Nat.reduceAdd, g1, h1, g2, h2, Bool.false_and]
        exact ⟨_, rfl⟩
  case hne => exact specF_noex _

theorem item_short {d : D} (h : shortB d = true) : itemB d = true := by
  unfold shortB at h
  split at h
  · rename_i x
    show (decide (x ∈ wPLAIN) || decide (x ∈ wOPENING)) = true
    rw [h, Bool.true_or]
  · exact h
  · cases h
theorem all_filter (p : D → Bool) (zs : List D) : (zs.filter fun z => !p z).isEmpty = zs.all p := by
  by_cases h : zs.all p = true
  · rw [h, List.isEmpty_iff, List.filter_eq_nil_iff]
    intro c hc
    rw [List.all_eq_true.mp h c hc]; decide
  · have h' : zs.all p = false := by simpa using h
    rw [h', ← Bool.not_eq_true, List.isEmpty_iff, List.filter_eq_nil_iff]
    intro hn
    apply h
    rw [List.all_eq_true]
    intro c hc
    have := hn c hc
    simpa using this
theorem isi_notup {z : D} {n : Nat} (hok : gd n z = true) (h : isTup z = false) : isiG [z, .cls (.ty "tuple")] = some (.bl false) := by
  cases n with
  | zero => cases hok
  | succ n => cases z <;> first | rfl | exact absurd h Bool.noConfusion | exact Bool.noConfusion (show false = true from hok)
theorem isTup_tup {z : D} (h : isTup z = true) : ∃ zs, z = .tup zs := by
  cases z <;> first | exact ⟨_, rfl⟩ | cases h

abbrev s__law_is_item : Stmt := topS 45
theorem sc__law_is_item : FnScope ["_law_value", "_law_one"] ["_law_value"] (defScope s__law_is_item) := ⟨rfl, rfl, rfl, by decide +kernel, rfl, by decide +kernel, by decide +kernel⟩
theorem ok__law_is_item {f : Addr} {fd : FuncData} (F : Fun K "_law_is_item" "_law_is_item" s__law_is_item f fd) (T : Txt K mg) (d__law_is_name : Dfn P w K mg base CX0 1 "_law_is_name" 1 G__law_is_name) (d__law_is_inner : Dfn P w K mg base CX0 2 "_law_is_inner" 1 G__law_is_inner) : FnOk P w K mg base CX0 3 f fd ["_law_value"] (spD K 1 G__law_is_item) := by
  refine okD F sc__law_is_item rfl (fun cdv A outer s H E hr => ⟨_, (jss_cons (js_if (jt_val (j_call d__law_is_inner (hr.mono (by decide)) pass0 (by rfl) (ja_cons (JE.rv (jv 0)) ja_nil))) (jss_one (js_ret j_bl)) jss_nil)
      (jss_cons (js_if (JW.jt (jw_or (jt_not (jt_val (j_callB call_isi cd_isi boot_isinstance T.z_isinstance (by rfl) (ja_cons (jr 0) (ja_cons (JE.rv (j_bty boot_tuple T.z_tuple (by rfl))) ja_nil))))) (jw_or (jt_cmp (op_eqA hr.units) od_eq (jr 0) (JE.rv (j_tup ja_nil)) (nomark _)) (jw_or1 (jt_not (jt_val (j_callB call_isi cd_isi boot_isinstance T.z_isinstance (by rfl) (ja_cons (JE.rv (j_ix (jr 0) (JE.rv j_int))) (ja_cons (JE.rv (j_bty boot_str T.z_str (by rfl))) ja_nil))))))))) (jss_one (js_ret j_bl)) jss_nil)
      (jss_cons (js_if (jt_cmp (op_eqA hr.units) od_eq (JE.rv (j_callB call_len cd_len PySem.boot_len T.z_len (by rfl) (ja_cons (jr 0) ja_nil))) (JE.rv j_int) (nomark _)) (jss_one (js_ret (j_cmp (op_inA (u65 hr)) od_inA (JE.rv (j_ix (jr 0) (JE.rv j_int))) (JE.rv (JN.je (j_lst (ja_cons (JE.rv j_str) (ja_cons (JE.rv j_str) (ja_cons (JE.rv j_str) ja_nil)))))) (by rfl)))) jss_nil)
      (jss_cons (js_if (JW.jt (jw_or (jt_cmp (op_neA hr.units) od_ne (JE.rv (j_callB call_len cd_len PySem.boot_len T.z_len (by rfl) (ja_cons (jr 0) ja_nil))) (JE.rv j_int) (nomark _)) (jw_or (jt_cmp (op_neA hr.units) od_ne (JE.rv (j_ix (jr 0) (JE.rv j_int))) (JE.rv j_str) (nomark _)) (jw_or (jt_not (jt_val (j_call d__law_is_name (hr.mono (by decide)) pass0 (by rfl) (ja_cons (JE.rv (j_ix (jr 0) (JE.rv j_int))) ja_nil)))) (jw_or1 (jt_not (jt_val (j_callB call_isi cd_isi boot_isinstance T.z_isinstance (by rfl) (ja_cons (JE.rv (j_ix (jr 0) (JE.rv j_int))) (ja_cons (JE.rv (j_bty boot_tuple T.z_tuple (by rfl))) ja_nil)))))))))) (jss_one (js_ret j_bl)) jss_nil)
      (jss_one (js_ret (j_and (j_cmp op_le od_le (JE.rv (j_callB call_len cd_len PySem.boot_len T.z_len (by rfl) (ja_cons (JE.rv (j_ix (jr 0) (JE.rv j_int))) ja_nil))) (JE.rv j_int) (nomark _)) (j_one (j_cmp (op_eqA hr.units) od_eq (JE.rv (JN.je (j_lc (own := [("_law_one", 1)]) rfl sc__law_is_item.nd (blkOk_by (N := ["_law_value", "_law_one"]) (sc := defScope s__law_is_item) (by decide +kernel)) (ji_tup (j_ix (jr 0) (JE.rv j_int))) (fun _ _ _ _ _ => (jg_name (i := 1) sc__law_is_item.nd rfl (by first | exact Or.inl rfl | exact Or.inr rfl) (by decide))) (fun _ _ _ _ _ => (jts_one (jt_not (jt_val (j_call d__law_is_inner (hr.mono (by decide)) pass0 (by rfl) (ja_cons (JE.rv (jv 1)) ja_nil)))))) (fun _ _ _ _ _ => (jv 1))))) (JE.rv (JN.je (j_lst ja_nil))) (nomark _))))))))))⟩) ?hG ?hne
  case hG =>
    refine tells_un (m := 1) fun d hok => ?_
    have n12 : ¬ (1 : Int) = 2 := by decide
    have n21 : ¬ (2 : Int) = 1 := by decide
    have n31 : ¬ (3 : Int) = 1 := by decide
    have n32 : ¬ (3 : Int) = 2 := by decide
    have n23 : ¬ (2 : Int) = 3 := by decide
    have n11 : ((1 : Nat) : Int) = 1 := rfl
    have n22 : ((2 : Nat) : Int) = 2 := rfl
    have n33 : ((3 : Nat) : Int) = 3 := rfl
    have g1 := un_at shortB hok
    cases ht : isTup d with
    | false =>
      have hT := (isiG_tuple d).symm.trans (isi_nt hok ht)
      rw [(np ht).1] at g1
      rw [(np ht).2.1]
      simp -implicitDefEqProofs only [List.map, List.replicate, List.append, List.cons_append, List.nil_append, List.length, a_bnd, a_ret, a_nope, a_lft, a_rdV, a_getF, a_lookF, a_lookS, a_stillF, a_stillS, a_asRv, a_mop, a_seq, a_ifS, a_ifM, a_notM, a_asB1, a_andV, a_orV, a_notV, a_chain, a_consM, a_looks0, a_looks, a_stills0, a_stills, a_callM, a_callS, a_retM, a_setM, a_setO, a_drpM, a_appM, a_isOwL, a_lstM, a_tupM, a_negM, a_someM, a_slM, a_compM, a_forM, a_asS1, a_asL1, a_asT1, a_rng1, a_enum, a_repM, a_strM1, a_parM, a_iT, a_iF, a_iTr, a_iFr, if_true, if_false, Bool.false_eq_true, Bool.true_eq_false, not_true, not_false_iff, isiG_str, isiG_int, isiG_bool, isiG_tuple, isiG_list, isiG_dict, few_s, List.getElem?_cons_zero, List.getElem?_cons_succ, List.getElem?_nil, List.set_cons_zero, List.set_cons_succ, e_add, e_sub, e_lt, e_le, e_gt, e_ge, e_eqI, e_neI, e_eqS, e_neS, e_eqB, e_neB, e_isB, e_notB, e_lenL, e_lenT, e_in1, e_notIn1, e_max, e_min, e_intI, e_intB, Bool.not_true, Bool.not_false, decide_true, decide_false, Nat.reduceAdd, hT, g1]
      exact ⟨_, rfl⟩
    | true =>
      match d, hok, ht, g1 with
      | .tup [], hok, _, g1 =>
        have hin : shortB (.tup []) = false := rfl
        rw [hin] at g1
        have he : eqG (.tup []) (.tup []) = some (.bl true) := e_nilT shp_nilT
        simp -implicitDefEqProofs only [List.map, List.replicate, List.append, List.cons_append, List.nil_append, List.length, a_bnd, a_ret, a_nope, a_lft, a_rdV, a_getF, a_lookF, a_lookS, a_stillF, a_stillS, a_asRv, a_mop, a_seq, a_ifS, a_ifM, a_notM, a_asB1, a_andV, a_orV, a_notV, a_chain, a_consM, a_looks0, a_looks, a_stills0, a_stills, a_callM, a_callS, a_retM, a_setM, a_setO, a_drpM, a_appM, a_isOwL, a_lstM, a_tupM, a_negM, a_someM, a_slM, a_compM, a_forM, a_asS1, a_asL1, a_asT1, a_rng1, a_enum, a_repM, a_strM1, a_parM, a_iT, a_iF, a_iTr, a_iFr, if_true, if_false, Bool.false_eq_true, Bool.true_eq_false, not_true, not_false_iff, isiG_str, isiG_int, isiG_bool, isiG_tuple, isiG_list, isiG_dict, few_s, List.getElem?_cons_zero, List.getElem?_cons_succ, List.getElem?_nil, List.set_cons_zero, List.set_cons_succ, e_add, e_sub, e_lt, e_le, e_gt, e_ge, e_eqI, e_neI, e_eqS, e_neS, e_eqB, e_neB, e_isB, e_notB, e_lenL, e_lenT, e_in1, e_notIn1, e_max, e_min, e_intI, e_intB, Bool.not_true, Bool.not_false, decide_true, decide_false, Nat.reduceAdd, he, g1]
        exact ⟨_, rfl⟩
      | .tup (a :: r), hok, _, g1 =>
        have he : eqG (.tup (a :: r)) (.tup []) = some (.bl false) := e_nilT (okV_shp hok)
        have ga := (okV_tup hok).2 a (by simp)
        cases hs : isS a with
        | false =>
          have hS := (isiG_str a).symm.trans (isi_ns ga hs)
          rw [(na hs).1] at g1
          rw [(na hs).2.1]
          simp -implicitDefEqProofs only [List.map, List.replicate, List.append, List.cons_append, List.nil_append, List.length, a_bnd, a_ret, a_nope, a_lft, a_rdV, a_getF, a_lookF, a_lookS, a_stillF, a_stillS, a_asRv, a_mop, a_seq, a_ifS, a_ifM, a_notM, a_asB1, a_andV, a_orV, a_notV, a_chain, a_consM, a_looks0, a_looks, a_stills0, a_stills, a_callM, a_callS, a_retM, a_setM, a_setO, a_drpM, a_appM, a_isOwL, a_lstM, a_tupM, a_negM, a_someM, a_slM, a_compM, a_forM, a_asS1, a_asL1, a_asT1, a_rng1, a_enum, a_repM, a_strM1, a_parM, a_iT, a_iF, a_iTr, a_iFr, if_true, if_false, Bool.false_eq_true, Bool.true_eq_false, not_true, not_false_iff, isiG_str, isiG_int, isiG_bool, isiG_tuple, isiG_list, isiG_dict, few_s, List.getElem?_cons_zero, List.getElem?_cons_succ, List.getElem?_nil, List.set_cons_zero, List.set_cons_succ, e_add, e_sub, e_lt, e_le, e_gt, e_ge, e_eqI, e_neI, e_eqS, e_neS, e_eqB, e_neB, e_isB, e_notB, e_lenL, e_lenT, e_in1, e_notIn1, e_max, e_min, e_intI, e_intB, Bool.not_true, Bool.not_false, decide_true, decide_false, Nat.reduceAdd, he, e_ix0, hS, g1]
          exact ⟨_, rfl⟩
        | true =>
          obtain ⟨x, rfl⟩ := isS_str hs
          match r, hok, he, g1 with
          | [], hok, he, g1 =>
            cases hin : shortB (.tup [.str x]) with
            | true =>
              rw [item_short hin]
              rw [hin] at g1
              simp -implicitDefEqProofs only [List.map, List.replicate, List.append, List.cons_append, List.nil_append, List.length, a_bnd, a_ret, a_nope, a_lft, a_rdV, a_getF, a_lookF, a_lookS, a_stillF, a_stillS, a_asRv, a_mop, a_seq, a_ifS, a_ifM, a_notM, a_asB1, a_andV, a_orV, a_notV, a_chain, a_consM, a_looks0, a_looks, a_stills0, a_stills, a_callM, a_callS, a_retM, a_setM, a_setO, a_drpM, a_appM, a_isOwL, a_lstM, a_tupM, a_negM, a_someM, a_slM, a_compM, a_forM, a_asS1, a_asL1, a_asT1, a_rng1, a_enum, a_repM, a_strM1, a_parM, a_iT, a_iF, a_iTr, a_iFr, if_true, if_false, Bool.false_eq_true, Bool.true_eq_false, not_true, not_false_iff, isiG_str, isiG_int, isiG_bool, isiG_tuple, isiG_list, isiG_dict, few_s, List.getElem?_cons_zero, List.getElem?_cons_succ, List.getElem?_nil, List.set_cons_zero, List.set_cons_succ, e_add, e_sub, e_lt, e_le, e_gt, e_ge, e_eqI, e_neI, e_eqS, e_neS, e_eqB, e_neB, e_isB, e_notB, e_lenL, e_lenT, e_in1, e_notIn1, e_max, e_min, e_intI, e_intB, Bool.not_true, Bool.not_false, decide_true, decide_false, Nat.reduceAdd, g1]
              exact ⟨_, rfl⟩
            | false =>
              rw [hin] at g1
              have hp : decide (x ∈ wPLAIN) = false := hin
              have hi : inA (.str x) (.lst [.str "look", .str "hold", .str "try"]) = some (.bl (decide (x ∈ wOPENING))) := e_inL rfl
              simp -implicitDefEqProofs only [List.map, List.replicate, List.append, List.cons_append, List.nil_append, List.length, a_bnd, a_ret, a_nope, a_lft, a_rdV, a_getF, a_lookF, a_lookS, a_stillF, a_stillS, a_asRv, a_mop, a_seq, a_ifS, a_ifM, a_notM, a_asB1, a_andV, a_orV, a_notV, a_chain, a_consM, a_looks0, a_looks, a_stills0, a_stills, a_callM, a_callS, a_retM, a_setM, a_setO, a_drpM, a_appM, a_isOwL, a_lstM, a_tupM, a_negM, a_someM, a_slM, a_compM, a_forM, a_asS1, a_asL1, a_asT1, a_rng1, a_enum, a_repM, a_strM1, a_parM, a_iT, a_iF, a_iTr, a_iFr, if_true, if_false, Bool.false_eq_true, Bool.true_eq_false, not_true, not_false_iff, isiG_str, isiG_int, isiG_bool, isiG_tuple, isiG_list, isiG_dict, few_s, List.getElem?_cons_zero, List.getElem?_cons_succ, List.getElem?_nil, List.set_cons_zero, List.set_cons_succ, e_add, e_sub, e_lt, e_le, e_gt, e_ge, e_eqI, e_neI, e_eqS, e_neS, e_eqB, e_neB, e_isB, e_notB, e_lenL, e_lenT, e_in1, e_notIn1, e_max, e_min, e_intI, e_intB, Bool.not_true, Bool.not_false, decide_true, decide_false, Nat.reduceAdd, g1, he, e_ix0, hi, n11, n22, n33, n12, n21, n31, n32, n23, eq_self, itemB, hp, Bool.false_or]
              exact ⟨_, rfl⟩
          | [y], hok, he, g1 =>
            have gy := (okV_tup hok).2 y (by simp)
            have gn := un_at nameB (okV_gd gy)
            cases hin : shortB (.tup [.str x, y]) with
            | true =>
              rw [item_short hin]
              rw [hin] at g1
              simp -implicitDefEqProofs only [List.map, List.replicate, List.append, List.cons_append, List.nil_append, List.length, a_bnd, a_ret, a_nope, a_lft, a_rdV, a_getF, a_lookF, a_lookS, a_stillF, a_stillS, a_asRv, a_mop, a_seq, a_ifS, a_ifM, a_notM, a_asB1, a_andV, a_orV, a_notV, a_chain, a_consM, a_looks0, a_looks, a_stills0, a_stills, a_callM, a_callS, a_retM, a_setM, a_setO, a_drpM, a_appM, a_isOwL, a_lstM, a_tupM, a_negM, a_someM, a_slM, a_compM, a_forM, a_asS1, a_asL1, a_asT1, a_rng1, a_enum, a_repM, a_strM1, a_parM, a_iT, a_iF, a_iTr, a_iFr, if_true, if_false, Bool.false_eq_true, Bool.true_eq_false, not_true, not_false_iff, isiG_str, isiG_int, isiG_bool, isiG_tuple, isiG_list, isiG_dict, few_s, List.getElem?_cons_zero, List.getElem?_cons_succ, List.getElem?_nil, List.set_cons_zero, List.set_cons_succ, e_add, e_sub, e_lt, e_le, e_gt, e_ge, e_eqI, e_neI, e_eqS, e_neS, e_eqB, e_neB, e_isB, e_notB, e_lenL, e_lenT, e_in1, e_notIn1, e_max, e_min, e_intI, e_intB, Bool.not_true, Bool.not_false, decide_true, decide_false, Nat.reduceAdd, g1]
              exact ⟨_, rfl⟩
            | false =>
              rw [hin] at g1
              have hp : itemB (.tup [.str x, y]) = false := hin
              simp -implicitDefEqProofs only [List.map, List.replicate, List.append, List.cons_append, List.nil_append, List.length, a_bnd, a_ret, a_nope, a_lft, a_rdV, a_getF, a_lookF, a_lookS, a_stillF, a_stillS, a_asRv, a_mop, a_seq, a_ifS, a_ifM, a_notM, a_asB1, a_andV, a_orV, a_notV, a_chain, a_consM, a_looks0, a_looks, a_stills0, a_stills, a_callM, a_callS, a_retM, a_setM, a_setO, a_drpM, a_appM, a_isOwL, a_lstM, a_tupM, a_negM, a_someM, a_slM, a_compM, a_forM, a_asS1, a_asL1, a_asT1, a_rng1, a_enum, a_repM, a_strM1, a_parM, a_iT, a_iF, a_iTr, a_iFr, if_true, if_false, Bool.false_eq_true, Bool.true_eq_false, not_true, not_false_iff, isiG_str, isiG_int, isiG_bool, isiG_tuple, isiG_list, isiG_dict, few_s, List.getElem?_cons_zero, List.getElem?_cons_succ, List.getElem?_nil, List.set_cons_zero, List.set_cons_succ, e_add, e_sub, e_lt, e_le, e_gt, e_ge, e_eqI, e_neI, e_eqS, e_neS, e_eqB, e_neB, e_isB, e_notB, e_lenL, e_lenT, e_in1, e_notIn1, e_max, e_min, e_intI, e_intB, Bool.not_true, Bool.not_false, decide_true, decide_false, Nat.reduceAdd, g1, he, e_ix0, n11, n22, n33, n12, n21, n31, n32, n23, eq_self, hp]
              exact ⟨_, rfl⟩
          | [y, z], hok, he, g1 =>
            have gy := (okV_tup hok).2 y (by simp)
            have gn := un_at nameB (okV_gd gy)
            have gz := (okV_tup hok).2 z (by simp)
            have hin : shortB (.tup [.str x, y, z]) = false := rfl
            rw [hin] at g1
            by_cases hx : x = "ask"
            · subst hx
              cases hy : nameB y with
              | false =>
                rw [hy] at gn
                simp -implicitDefEqProofs only [List.map, List.replicate, List.append, List.cons_append, List.nil_append, List.length, a_bnd, a_ret, a_nope, a_lft, a_rdV, a_getF, a_lookF, a_lookS, a_stillF, a_stillS, a_asRv, a_mop, a_seq, a_ifS, a_ifM, a_notM, a_asB1, a_andV, a_orV, a_notV, a_chain, a_consM, a_looks0, a_looks, a_stills0, a_stills, a_callM, a_callS, a_retM, a_setM, a_setO, a_drpM, a_appM, a_isOwL, a_lstM, a_tupM, a_negM, a_someM, a_slM, a_compM, a_forM, a_asS1, a_asL1, a_asT1, a_rng1, a_enum, a_repM, a_strM1, a_parM, a_iT, a_iF, a_iTr, a_iFr, if_true, if_false, Bool.false_eq_true, Bool.true_eq_false, not_true, not_false_iff, isiG_str, isiG_int, isiG_bool, isiG_tuple, isiG_list, isiG_dict, few_s, List.getElem?_cons_zero, List.getElem?_cons_succ, List.getElem?_nil, List.set_cons_zero, List.set_cons_succ, e_add, e_sub, e_lt, e_le, e_gt, e_ge, e_eqI, e_neI, e_eqS, e_neS, e_eqB, e_neB, e_isB, e_notB, e_lenL, e_lenT, e_in1, e_notIn1, e_max, e_min, e_intI, e_intB, Bool.not_true, Bool.not_false, decide_true, decide_false, Nat.reduceAdd, g1, he, e_ix0, e_ix1, n11, n22, n33, n12, n21, n31, n32, n23, eq_self, gn, itemB, hy, Bool.false_and, Bool.and_false]
                exact ⟨_, rfl⟩
              | true =>
                rw [hy] at gn
                cases hz : isTup z with
                | false =>
                  have hT := (isiG_tuple z).symm.trans (isi_notup gz hz)
                  simp -implicitDefEqProofs only [List.map, List.replicate, List.append, List.cons_append, List.nil_append, List.length, a_bnd, a_ret, a_nope, a_lft, a_rdV, a_getF, a_lookF, a_lookS, a_stillF, a_stillS, a_asRv, a_mop, a_seq, a_ifS, a_ifM, a_notM, a_asB1, a_andV, a_orV, a_notV, a_chain, a_consM, a_looks0, a_looks, a_stills0, a_stills, a_callM, a_callS, a_retM, a_setM, a_setO, a_drpM, a_appM, a_isOwL, a_lstM, a_tupM, a_negM, a_someM, a_slM, a_compM, a_forM, a_asS1, a_asL1, a_asT1, a_rng1, a_enum, a_repM, a_strM1, a_parM, a_iT, a_iF, a_iTr, a_iFr, if_true, if_false, Bool.false_eq_true, Bool.true_eq_false, not_true, not_false_iff, isiG_str, isiG_int, isiG_bool, isiG_tuple, isiG_list, isiG_dict, few_s, List.getElem?_cons_zero, List.getElem?_cons_succ, List.getElem?_nil, List.set_cons_zero, List.set_cons_succ, e_add, e_sub, e_lt, e_le, e_gt, e_ge, e_eqI, e_neI, e_eqS, e_neS, e_eqB, e_neB, e_isB, e_notB, e_lenL, e_lenT, e_in1, e_notIn1, e_max, e_min, e_intI, e_intB, Bool.not_true, Bool.not_false, decide_true, decide_false, Nat.reduceAdd, g1, he, e_ix0, e_ix1, e_ix2, n11, n22, n33, n12, n21, n31, n32, n23, eq_self, gn, hT, itemB, hy, hz, Bool.false_and, Bool.and_false]
                  exact ⟨_, rfl⟩
                | true =>
                  obtain ⟨zs, rfl⟩ := isTup_tup hz
                  have hzs := gd_tup gz
                  have hb : itemB (.tup [.str "ask", y, .tup zs]) = (decide (zs.length ≤ 4) && zs.all shortB) := by
                    show (decide (("ask" : Str) = "ask") && (nameB y && (true && (decide (zs.length ≤ 4) && zs.all shortB)))) = _
                    rw [hy]; rfl
                  rw [hb]
                  by_cases hl : (zs.length : Int) ≤ 4
                  · have hc : ∀ (h : D → Fm → Option Fm) (hh : h = fun d env => some (env.set 1 (.fz d))), compA [1] h (DL.notM (bnd (callF 1 G__law_is_inner (consM (asRv (getF 1)) (DL.ret []))) asB)) (getF 1) zs [.fz (.tup [.str "ask", y, .tup zs]), .un] = .ok (.lst ((zs.filter fun z => !shortB z).map id)) [.fz (.tup [.str "ask", y, .tup zs]), .un] := by
                      rintro _ rfl
                      refine compA_filterD (fun z => !shortB z) id _ rfl (szk (by omega)) fun z hz => ?_
                      have gz := un_at shortB (okV_gd (gd_mono (hzs.2 z hz)))
                      refine ⟨[.fz (.tup [.str "ask", y, .tup zs]), .fz z], [.fz (.tup [.str "ask", y, .tup zs]), .fz z], rfl, ?_, fun _ => rfl, fun _ => ⟨_, rfl, rfl⟩⟩
                      simp -implicitDefEqProofs only [List.map, List.replicate, List.append, List.cons_append, List.nil_append, List.length, a_bnd, a_ret, a_nope, a_lft, a_rdV, a_getF, a_lookF, a_lookS, a_stillF, a_stillS, a_asRv, a_mop, a_seq, a_ifS, a_ifM, a_notM, a_asB1, a_andV, a_orV, a_notV, a_chain, a_consM, a_looks0, a_looks, a_stills0, a_stills, a_callM, a_callS, a_retM, a_setM, a_setO, a_drpM, a_appM, a_isOwL, a_lstM, a_tupM, a_negM, a_someM, a_slM, a_compM, a_forM, a_asS1, a_asL1, a_asT1, a_rng1, a_enum, a_repM, a_strM1, a_parM, a_iT, a_iF, a_iTr, a_iFr, if_true, if_false, Bool.false_eq_true, Bool.true_eq_false, not_true, not_false_iff, isiG_str, isiG_int, isiG_bool, isiG_tuple, isiG_list, isiG_dict, few_s, List.getElem?_cons_zero, List.getElem?_cons_succ, List.getElem?_nil, List.set_cons_zero, List.set_cons_succ, e_add, e_sub, e_lt, e_le, e_gt, e_ge, e_eqI, e_neI, e_eqS, e_neS, e_eqB, e_neB, e_isB, e_notB, e_lenL, e_lenT, e_in1, e_notIn1, e_max, e_min, e_intI, e_intB, Bool.not_true, Bool.not_false, decide_true, decide_false, Nat.reduceAdd, gz]
                    have hc := hc _ rfl
                    rw [List.map_id] at hc
                    have hf := e_nilL (ds := zs.filter fun z => !shortB z) (gd_shp (n := 8) (gd_lst_mk (Nat.le_trans (List.length_filter_le _ _) hzs.1) fun d hd => gd_mono (hzs.2 d (List.mem_filter.mp hd).1)) (by decide))
                    rw [all_filter] at hf
                    simp -implicitDefEqProofs only [List.map, List.replicate, List.append, List.cons_append, List.nil_append, List.length, a_bnd, a_ret, a_nope, a_lft, a_rdV, a_getF, a_lookF, a_lookS, a_stillF, a_stillS, a_asRv, a_mop, a_seq, a_ifS, a_ifM, a_notM, a_asB1, a_andV, a_orV, a_notV, a_chain, a_consM, a_looks0, a_looks, a_stills0, a_stills, a_callM, a_callS, a_retM, a_setM, a_setO, a_drpM, a_appM, a_isOwL, a_lstM, a_tupM, a_negM, a_someM, a_slM, a_compM, a_forM, a_asS1, a_asL1, a_asT1, a_rng1, a_enum, a_repM, a_strM1, a_parM, a_iT, a_iF, a_iTr, a_iFr, if_true, if_false, Bool.false_eq_true, Bool.true_eq_false, not_true, not_false_iff, isiG_str, isiG_int, isiG_bool, isiG_tuple, isiG_list, isiG_dict, few_s, List.getElem?_cons_zero, List.getElem?_cons_succ, List.getElem?_nil, List.set_cons_zero, List.set_cons_succ, e_add, e_sub, e_lt, e_le, e_gt, e_ge, e_eqI, e_neI, e_eqS, e_neS, e_eqB, e_neB, e_isB, e_notB, e_lenL, e_lenT, e_in1, e_notIn1, e_max, e_min, e_intI, e_intB, Bool.not_true, Bool.not_false, decide_true, decide_false, Nat.reduceAdd, g1, he, e_ix0, e_ix1, e_ix2, n11, n22, n33, n12, n21, n31, n32, n23, eq_self, gn, hl, hc, hf]
                    refine ⟨[.fz (.tup [.str "ask", y, .tup zs]), .un], ?_⟩
                    rw [decide_eq_true (show zs.length ≤ 4 by omega), Bool.true_and]
                  · simp -implicitDefEqProofs only [List.map, List.replicate, List.append, List.cons_append, List.nil_append, List.length, a_bnd, a_ret, a_nope, a_lft, a_rdV, a_getF, a_lookF, a_lookS, a_stillF, a_stillS, a_asRv, a_mop, a_seq, a_ifS, a_ifM, a_notM, a_asB1, a_andV, a_orV, a_notV, a_chain, a_consM, a_looks0, a_looks, a_stills0, a_stills, a_callM, a_callS, a_retM, a_setM, a_setO, a_drpM, a_appM, a_isOwL, a_lstM, a_tupM, a_negM, a_someM, a_slM, a_compM, a_forM, a_asS1, a_asL1, a_asT1, a_rng1, a_enum, a_repM, a_strM1, a_parM, a_iT, a_iF, a_iTr, a_iFr, if_true, if_false, Bool.false_eq_true, Bool.true_eq_false, not_true, not_false_iff, isiG_str, isiG_int, isiG_bool, isiG_tuple, isiG_list, isiG_dict, few_s, List.getElem?_cons_zero, List.getElem?_cons_succ, List.getElem?_nil, List.set_cons_zero, List.set_cons_succ, e_add, e_sub, e_lt, e_le, e_gt, e_ge, e_eqI, e_neI, e_eqS, e_neS, e_eqB, e_neB, e_isB, e_notB, e_lenL, e_lenT, e_in1, e_notIn1, e_max, e_min, e_intI, e_intB, Bool.not_true, Bool.not_false, decide_true, decide_false, Nat.reduceAdd, g1, he, e_ix0, e_ix1, e_ix2, n11, n22, n33, n12, n21, n31, n32, n23, eq_self, gn, hl]
                    refine ⟨[.fz (.tup [.str "ask", y, .tup zs]), .un], ?_⟩
                    rw [decide_eq_false (show ¬ zs.length ≤ 4 by omega), Bool.false_and]
            · simp -implicitDefEqProofs only [List.map, List.replicate, List.append, List.cons_append, List.nil_append, List.length, a_bnd, a_ret, a_nope, a_lft, a_rdV, a_getF, a_lookF, a_lookS, a_stillF, a_stillS, a_asRv, a_mop, a_seq, a_ifS, a_ifM, a_notM, a_asB1, a_andV, a_orV, a_notV, a_chain, a_consM, a_looks0, a_looks, a_stills0, a_stills, a_callM, a_callS, a_retM, a_setM, a_setO, a_drpM, a_appM, a_isOwL, a_lstM, a_tupM, a_negM, a_someM, a_slM, a_compM, a_forM, a_asS1, a_asL1, a_asT1, a_rng1, a_enum, a_repM, a_strM1, a_parM, a_iT, a_iF, a_iTr, a_iFr, if_true, if_false, Bool.false_eq_true, Bool.true_eq_false, not_true, not_false_iff, isiG_str, isiG_int, isiG_bool, isiG_tuple, isiG_list, isiG_dict, few_s, List.getElem?_cons_zero, List.getElem?_cons_succ, List.getElem?_nil, List.set_cons_zero, List.set_cons_succ, e_add, e_sub, e_lt, e_le, e_gt, e_ge, e_eqI, e_neI, e_eqS, e_neS, e_eqB, e_neB, e_isB, e_notB, e_lenL, e_lenT, e_in1, e_notIn1, e_max, e_min, e_intI, e_intB, Bool.not_true, Bool.not_false, decide_true, decide_false, Nat.reduceAdd, g1, he, e_ix0, e_ix1, n11, n22, n33, n12, n21, n31, n32, n23, eq_self, hx, itemB, Bool.false_and]
              exact ⟨_, rfl⟩
          | y :: z :: u :: r, hok, he, g1 =>
            have hl1 : ¬ (((r.length + 1 + 1 + 1 + 1 : Nat)) : Int) = 1 := by omega
            have hl2 : ¬ (((r.length + 1 + 1 + 1 + 1 : Nat)) : Int) = 2 := by omega
            have hl3 : ¬ (((r.length + 1 + 1 + 1 + 1 : Nat)) : Int) = 3 := by omega
            have hin : shortB (.tup (.str x :: y :: z :: u :: r)) = false := rfl
            rw [hin] at g1
            simp -implicitDefEqProofs only [List.map, List.replicate, List.append, List.cons_append, List.nil_append, List.length, a_bnd, a_ret, a_nope, a_lft, a_rdV, a_getF, a_lookF, a_lookS, a_stillF, a_stillS, a_asRv, a_mop, a_seq, a_ifS, a_ifM, a_notM, a_asB1, a_andV, a_orV, a_notV, a_chain, a_consM, a_looks0, a_looks, a_stills0, a_stills, a_callM, a_callS, a_retM, a_setM, a_setO, a_drpM, a_appM, a_isOwL, a_lstM, a_tupM, a_negM, a_someM, a_slM, a_compM, a_forM, a_asS1, a_asL1, a_asT1, a_rng1, a_enum, a_repM, a_strM1, a_parM, a_iT, a_iF, a_iTr, a_iFr, if_true, if_false, Bool.false_eq_true, Bool.true_eq_false, not_true, not_false_iff, isiG_str, isiG_int, isiG_bool, isiG_tuple, isiG_list, isiG_dict, few_s, List.getElem?_cons_zero, List.getElem?_cons_succ, List.getElem?_nil, List.set_cons_zero, List.set_cons_succ, e_add, e_sub, e_lt, e_le, e_gt, e_ge, e_eqI, e_neI, e_eqS, e_neS, e_eqB, e_neB, e_isB, e_notB, e_lenL, e_lenT, e_in1, e_notIn1, e_max, e_min, e_intI, e_intB, Bool.not_true, Bool.not_false, decide_true, decide_false, Nat.reduceAdd, g1, he, e_ix0, hl1, hl2, hl3, itemB]
            exact ⟨_, rfl⟩
  case hne => exact specF_noex _

abbrev G__law_right := specF (un fun _ => true)

abbrev s__law_right : Stmt := topS 48
theorem sc__law_right : FnScope ["_law_value"] ["_law_value"] (defScope s__law_right) := ⟨rfl, rfl, rfl, by decide +kernel, rfl, by decide +kernel, by decide +kernel⟩
theorem ok__law_right {f : Addr} {fd : FuncData} (F : Fun K "_law_right" "_law_right" s__law_right f fd) (T : Txt K mg) (d_is_item : Dfn P w K mg base CX0 3 "is_item" 1 G_is_item) (d_is_step : Dfn P w K mg base CX0 2 "is_step" 1 G_is_step) (d_is_use : Dfn P w K mg base CX0 4 "is_use" 1 G_is_use) (d__law_is_step : Dfn P w K mg base CX0 2 "_law_is_step" 1 G__law_is_step) (d__law_is_used : Dfn P w K mg base CX0 4 "_law_is_used" 1 G__law_is_used) (d__law_is_item : Dfn P w K mg base CX0 3 "_law_is_item" 1 G__law_is_item) : FnOk P w K mg base CX0 5 f fd ["_law_value"] (spD K 1 G__law_right) := by
  refine okD F sc__law_right rfl (fun cdv A outer s H E hr => ⟨_, (jss_cons (js_if (JW.jt (jw_or (jt_cmp (op_neA hr.units) od_ne (JE.rv (j_call d_is_item (hr.mono (by decide)) pass0 (by rfl) (ja_cons (JE.rv (jv 0)) ja_nil))) (JE.rv (j_call d__law_is_item (hr.mono (by decide)) pass0 (by rfl) (ja_cons (JE.rv (jv 0)) ja_nil))) (nomark _)) (jw_or1 (jt_cmp (op_neA hr.units) od_ne (JE.rv (j_call d_is_step (hr.mono (by decide)) pass0 (by rfl) (ja_cons (JE.rv (jv 0)) ja_nil))) (JE.rv (j_call d__law_is_step (hr.mono (by decide)) pass0 (by rfl) (ja_cons (JE.rv (jv 0)) ja_nil))) (nomark _))))) (jss_one (js_ret j_bl)) jss_nil)
      (jss_one (js_ret (j_cmp (op_eqA hr.units) od_eq (JE.rv (j_call d_is_use (hr.mono (by decide)) pass0 (by rfl) (ja_cons (JE.rv (jv 0)) ja_nil))) (JE.rv (j_call d__law_is_used (hr.mono (by decide)) pass0 (by rfl) (ja_cons (JE.rv (jv 0)) ja_nil))) (nomark _)))))⟩) ?hG ?hne
  case hG =>
    refine tells_un (m := 0) fun d hok => ?_
    have g1 := un_at itemB hok
    have g2 := un_at stepB hok
    have g3 := un_at useB hok
    simp -implicitDefEqProofs only [List.map, List.replicate, List.append, List.cons_append, List.nil_append, List.length, a_bnd, a_ret, a_nope, a_lft, a_rdV, a_getF, a_lookF, a_lookS, a_stillF, a_stillS, a_asRv, a_mop, a_seq, a_ifS, a_ifM, a_notM, a_asB1, a_andV, a_orV, a_notV, a_chain, a_consM, a_looks0, a_looks, a_stills0, a_stills, a_callM, a_callS, a_retM, a_setM, a_setO, a_drpM, a_appM, a_isOwL, a_lstM, a_tupM, a_negM, a_someM, a_slM, a_compM, a_forM, a_asS1, a_asL1, a_asT1, a_rng1, a_enum, a_repM, a_strM1, a_parM, a_iT, a_iF, a_iTr, a_iFr, if_true, if_false, Bool.false_eq_true, Bool.true_eq_false, not_true, not_false_iff, isiG_str, isiG_int, isiG_bool, isiG_tuple, isiG_list, isiG_dict, few_s, List.getElem?_cons_zero, List.getElem?_cons_succ, List.getElem?_nil, List.set_cons_zero, List.set_cons_succ, e_add, e_sub, e_lt, e_le, e_gt, e_ge, e_eqI, e_neI, e_eqS, e_neS, e_eqB, e_neB, e_isB, e_notB, e_lenL, e_lenT, e_in1, e_notIn1, e_max, e_min, e_intI, e_intB, Bool.not_true, Bool.not_false, decide_true, decide_false, Nat.reduceAdd, g1, g2, g3, eq_self]
    exact ⟨_, rfl⟩
  case hne => exact specF_noex _

def wWORDS : List Str := ["look", "hold", "try", "let", "enter", "leave", "touch", "use", "lock", "unlock", "out", "wait", "empty", "down", "start", "ask", "mark", "bar", "forget", "idle", "come", "", "step"]

theorem words_ok : ∀ x ∈ wWORDS, gd 1 (.str x) = true ∧ gd 1 (.str (Txt.upper x)) = true ∧ x.length ≤ 100 := by decide +kernel
def nm7 : List D := [.str "", .str "abcdefghi", .str "A", .str "a1", .non, .int 5, .lst [.str "a"]]
theorem nm7_ok : ∀ d ∈ nm7, gd 2 d = true := by decide +kernel
def bentL (x : Str) (r : List D) (nm : D) : List D := [.tup ((.str x :: r) ++ [.str "a"]), .tup (DL.cutD (.str x :: r) none (some (-1))), .lst (.str x :: r), .tup ((.str x :: r) ++ [.tup []]), .tup ([.str (Txt.upper x)] ++ DL.cutD (.str x :: r) (some 1) none),
  .tup ((DL.cutD (.str x :: r) none (some 1) ++ [nm]) ++ DL.cutD (.str x :: r) (some 2) none), .tup (DL.cutD (.str x :: r) (some 1) none), .tup ([.non] ++ DL.cutD (.str x :: r) (some 1) none), .str x, .tup (.str x :: r)]
def gBent : D → List D → Option (D × D) := fun o ds => match poolOf o, ds with
  | some (ns, k), [.tup (.str x :: r)] => if x ∈ wWORDS ∧ gd 6 (.tup (.str x :: r)) = true ∧ r.length ≤ 500 then
      (bentL x r (nm7.getD (drawn ns (k + 1) 7).toNat .non))[(drawn ns k 10).toNat]?.map fun d => (d, poolD ns (k + 2)) else none
  | _, _ => none
abbrev G__law_bent := specO gBent
theorem cut_mem {ds : List D} {lo hi : Option Int} {d : D} (h : d ∈ DL.cutD ds lo hi) : d ∈ ds := by
  unfold DL.cutD at h
  exact List.mem_of_mem_drop (List.mem_of_mem_take h)
theorem bent_ok {x : Str} {r : List D} {nm : D} (hx : x ∈ wWORDS) (hg : gd 6 (.tup (.str x :: r)) = true) (hr : r.length ≤ 500) (hn : nm ∈ nm7) : ∀ d ∈ bentL x r nm, gd 7 d = true := by
  obtain ⟨_, hm⟩ := gd_tup hg
  obtain ⟨x1, x2, _⟩ := words_ok x hx
  have x1' : ∀ n, gd (n + 1) (.str x) = true := fun n => gd_str_mk (gd_str x1).1 (gd_str x1).2
  have x2' : ∀ n, gd (n + 1) (.str (Txt.upper x)) = true := fun n => gd_str_mk (gd_str x2).1 (gd_str x2).2
  have hm6 : ∀ d ∈ (.str x :: r : List D), gd 6 d = true := fun d hd => gd_mono (hm d hd)
  have hl : (.str x :: r : List D).length ≤ 501 := by rw [List.length_cons]; omega
  have hc : ∀ lo hi, (DL.cutD (.str x :: r : List D) lo hi).length ≤ 501 := fun lo hi => Nat.le_trans (cutD_length _ lo hi) hl
  have hcm : ∀ lo hi, ∀ d ∈ DL.cutD (.str x :: r : List D) lo hi, gd 6 d = true := fun lo hi d hd => hm6 d (cut_mem hd)
  have hnm : gd 6 nm = true := gd_mono (gd_mono (gd_mono (gd_mono (nm7_ok nm hn))))
  have app : ∀ {a b : List D}, a.length ≤ 490 ∨ a.length ≤ 502 → b.length ≤ 490 ∨ b.length ≤ 502 → a.length + b.length ≤ 1000 → (∀ d ∈ a, gd 6 d = true) → (∀ d ∈ b, gd 6 d = true) → gd 7 (.tup (a ++ b)) = true := fun _ _ h ha hb => gd_tup_mk (by rw [List.length_append]; exact h) fun d hd => by
    rcases List.mem_append.mp hd with z | z
    · exact ha d z
    · exact hb d z
  intro d hd
  unfold bentL at hd
  simp only [List.mem_cons, List.not_mem_nil, or_false] at hd
  have one : ∀ {a : D}, gd 6 a = true → ∀ d ∈ [a], gd 6 d = true := fun h d hd => by rw [List.mem_singleton.mp hd]; exact h
  rcases hd with rfl | rfl | rfl | rfl | rfl | rfl | rfl | rfl | rfl | rfl
  · exact gd_tup_mk (by rw [List.length_append, List.length_cons, List.length_singleton]; omega) fun d hd => by
      rcases List.mem_append.mp hd with z | z
      · exact hm6 d z
      · exact one (by decide +kernel) d z
  · exact gd_tup_mk (Nat.le_trans (hc _ _) (by decide)) (hcm _ _)
  · exact gd_lst_mk (Nat.le_trans hl (by decide)) hm6
  · exact gd_tup_mk (by rw [List.length_append, List.length_cons, List.length_singleton]; omega) fun d hd => by
      rcases List.mem_append.mp hd with z | z
      · exact hm6 d z
      · exact one (by decide +kernel) d z
  · exact gd_tup_mk (by have := hc (some 1) none; rw [List.length_append, List.length_singleton]; omega) fun d hd => by
      rcases List.mem_append.mp hd with z | z
      · exact one (x2' 5) d z
      · exact hcm _ _ d z
  · exact gd_tup_mk (by
      have h1 : (DL.cutD (.str x :: r : List D) none (some 1)).length ≤ 1 := by
        show ((List.drop _ _).take _).length ≤ 1
        refine Nat.le_trans (List.length_take_le _ _) ?_
        have : HT.sIx (.str x :: r : List D).length (.str x :: r : List D).length (some 1) ≤ 1 := by
          unfold HT.sIx
          simp
        omega
      have h2 := hc (some 2) none
      rw [List.length_append, List.length_append, List.length_singleton]; omega) fun d hd => by
      rcases List.mem_append.mp hd with z | z
      · rcases List.mem_append.mp z with z | z
        · exact hcm _ _ d z
        · exact one hnm d z
      · exact hcm _ _ d z
  · exact gd_tup_mk (Nat.le_trans (hc _ _) (by decide)) (hcm _ _)
  · exact gd_tup_mk (by have := hc (some 1) none; rw [List.length_append, List.length_singleton]; omega) fun d hd => by
      rcases List.mem_append.mp hd with z | z
      · exact one (by decide +kernel) d z
      · exact hcm _ _ d z
  · exact x1' 6
  · exact gd_mono hg

theorem a_upM (fo : M D) (env : Fm) : upM fo env = bnd fo (fun a => match a with
  | .str x => if x.length ≤ 5592405 then ret (.str (Txt.upper x)) else nope
  | _ => nope) env := rfl

abbrev s__law_bent : Stmt := topS 49
theorem sc__law_bent : FnScope ["_law_pool_here", "_law_value", "_law_way", "_law_name", "_law_some"] ["_law_pool_here", "_law_value"] (defScope s__law_bent) := ⟨rfl, rfl, rfl, by decide +kernel, rfl, by decide +kernel, by decide +kernel⟩
theorem ok__law_bent {f : Addr} {fd : FuncData} (F : Fun K "_law_bent" "_law_bent" s__law_bent f fd) (T : Txt K mg) (d__law_draw : Dfn P w K mg base CX0 1 "_law_draw" 2 G__law_draw) : FnOk P w K mg base CX0 2 f fd ["_law_pool_here", "_law_value"] (spD K 2 G__law_bent) := by
  refine okD F sc__law_bent rfl (fun cdv A outer s H E hr => ⟨_, (jss_cons (js_par 2 3 rfl sc__law_bent.nd rfl rfl (ja_cons (JE.rv (j_callO 0 d__law_draw (hr.mono (by decide)) pass0 (by rfl) (ja_cons (JE.rv j_int) ja_nil))) (ja_cons (JE.rv (j_ix (JE.rv (JN.je (j_lst (ja_cons (JE.rv j_str) (ja_cons (JE.rv j_str) (ja_cons (JE.rv j_str) (ja_cons (JE.rv j_str) (ja_cons (JE.rv j_non) (ja_cons (JE.rv j_int) (ja_cons (JE.rv (JN.je (j_lst (ja_cons (JE.rv j_str) ja_nil)))) ja_nil)))))))))) (JE.rv (j_callO 0 d__law_draw (hr.mono (by decide)) pass0 (by rfl) (ja_cons (JE.rv j_int) ja_nil))))) ja_nil)) (by decide))
      (jss_cons (js_set 4 (JN.je (j_lst (ja_cons (JE.rv (j_op op_addA od_addA (jr 1) (JE.rv (j_tup (ja_cons (JE.rv j_str) ja_nil))))) (ja_cons (JE.rv (j_sl (jr 1) jo_none (jo_some (JE.rv (j_neg (JE.rv j_int)))))) (ja_cons (JE.rv (JN.je (j_callTN call_list_of cn_list boot_list T.z_list (by rfl) (ja_cons (jr 1) ja_nil)))) (ja_cons (JE.rv (j_op op_addA od_addA (jr 1) (JE.rv (j_tup (ja_cons (JE.rv (j_tup ja_nil)) ja_nil))))) (ja_cons (JE.rv (j_op op_addA od_addA (JE.rv (j_tup (ja_cons (JE.rv (j_upper (j_ix (jr 1) (JE.rv j_int)))) ja_nil))) (JE.rv (j_sl (jr 1) (jo_some (JE.rv j_int)) jo_none)))) ja_nil))))))) sc__law_bent.nd (by first | exact Or.inl rfl | exact Or.inr rfl))
      (jss_cons (js_set 4 (j_op op_addA od_addA (jr 4) (JE.rv (JN.je (j_lst (ja_cons (JE.rv (j_op op_addA od_addA (JE.rv (j_op op_addA od_addA (JE.rv (j_sl (jr 1) jo_none (jo_some (JE.rv j_int)))) (JE.rv (j_tup (ja_cons (JE.rv (jv 3)) ja_nil))))) (JE.rv (j_sl (jr 1) (jo_some (JE.rv j_int)) jo_none)))) (ja_cons (JE.rv (j_sl (jr 1) (jo_some (JE.rv j_int)) jo_none)) (ja_cons (JE.rv (j_op op_addA od_addA (JE.rv (j_tup (ja_cons (JE.rv j_non) ja_nil))) (JE.rv (j_sl (jr 1) (jo_some (JE.rv j_int)) jo_none)))) (ja_cons (JE.rv (j_ix (jr 1) (JE.rv j_int))) (ja_cons (JE.rv (jv 1)) ja_nil))))))))) sc__law_bent.nd (by first | exact Or.inl rfl | exact Or.inr rfl))
      (jss_one (js_ret (j_ix (jr 4) (jr 2)))))))⟩) ?hG ?hne
  case hG =>
    refine tells_O (m := 3) fun o ds d o' hl hg0 => ?_
    match ds, hl, hg0 with
    | [v], _, hg =>
      unfold gBent at hg
      split at hg
      · rename_i ns k x r hp heq
        cases heq
        split at hg
        · rename_i hok
          obtain ⟨hx, hgd, hr⟩ := hok
          have ho := poolOf_some hp
          subst ho
          have hd1 := gDraw_mk ns k (m := 10) (by decide)
          have hd2 := gDraw_mk ns (k + 1) (m := 7) (by decide)
          have b1 := drawn_lo ns (k + 1) (m := 7) (by decide)
          have b2 := drawn_hi ns (k + 1) (m := 7) (by decide)
          have c1 := drawn_lo ns k (m := 10) (by decide)
          have i7 : ixG (.lst [.str "", .str "abcdefghi", .str "A", .str "a1", .non, .int 5, .lst [.str "a"]]) (.int (drawn ns (k + 1) 7)) = some (nm7.getD (drawn ns (k + 1) 7).toNat .non) :=
            e_ixL (n := (drawn ns (k + 1) 7).toNat) (Int.toNat_of_nonneg b1).symm (by
              have hlt : (drawn ns (k + 1) 7).toNat < nm7.length := by show _ < 7; omega
              show nm7[_]? = _
              rw [List.getD_eq_getElem?_getD, List.getElem?_eq_getElem hlt]; rfl)
          generalize nm7.getD (drawn ns (k + 1) 7).toNat .non = nm at i7 hg
          have hxl := (words_ok x hx).2.2
          have hxz : x.length ≤ 5592405 := by omega
          have hl0 : (.str x :: r : List D).length ≤ 501 := by rw [List.length_cons]; omega
          have hc : ∀ lo hi, (DL.cutD (.str x :: r : List D) lo hi).length ≤ 501 := fun lo hi => Nat.le_trans (cutD_length _ lo hi) hl0
          have t1 : addA (.tup (.str x :: r)) (.tup [.str "a"]) = _ := e_catT (szk (by rw [List.length_singleton]; omega))
          have t2 : addA (.tup (.str x :: r)) (.tup [.tup []]) = _ := e_catT (szk (by rw [List.length_singleton]; omega))
          have t3 : addA (.tup [.str (Txt.upper x)]) (.tup (DL.cutD (.str x :: r) (some 1) none)) = _ := e_catT (szk (by have := hc (some 1) none; rw [List.length_singleton]; omega))
          have t4 : addA (.tup (DL.cutD (.str x :: r) none (some 1))) (.tup [nm]) = _ := e_catT (szk (by have := hc none (some 1); rw [List.length_singleton]; omega))
          have t5 : addA (.tup (DL.cutD (.str x :: r) none (some 1) ++ [nm])) (.tup (DL.cutD (.str x :: r) (some 2) none)) = _ := e_catT (szk (by have := hc none (some 1); have := hc (some 2) none; rw [List.length_append, List.length_singleton]; omega))
          have t6 : addA (.tup [.non]) (.tup (DL.cutD (.str x :: r) (some 1) none)) = _ := e_catT (szk (by have := hc (some 1) none; rw [List.length_singleton]; omega))
          have lst1 : listG [.tup (.str x :: r)] = some (.lst (.str x :: r)) := rfl
          have e_catL10 : ∀ a1 a2 a3 a4 a5 b1 b2 b3 b4 b5 : D, addA (.lst [a1, a2, a3, a4, a5]) (.lst [b1, b2, b3, b4, b5]) = some (.lst [a1, a2, a3, a4, a5, b1, b2, b3, b4, b5]) := fun _ _ _ _ _ _ _ _ _ _ => e_catL (szk (show 5 + 5 ≤ 100000 by decide))
          simp -implicitDefEqProofs only [List.map, List.replicate, List.append, List.cons_append, List.nil_append, List.length, a_bnd, a_ret, a_nope, a_lft, a_rdV, a_getF, a_lookF, a_lookS, a_stillF, a_stillS, a_asRv, a_mop, a_seq, a_ifS, a_ifM, a_notM, a_asB1, a_andV, a_orV, a_notV, a_chain, a_consM, a_looks0, a_looks, a_stills0, a_stills, a_callM, a_callS, a_retM, a_setM, a_setO, a_drpM, a_appM, a_isOwL, a_lstM, a_tupM, a_negM, a_someM, a_slM, a_compM, a_forM, a_asS1, a_asL1, a_asT1, a_rng1, a_enum, a_repM, a_strM1, a_parM, a_iT, a_iF, a_iTr, a_iFr, if_true, if_false, Bool.false_eq_true, Bool.true_eq_false, not_true, not_false_iff, isiG_str, isiG_int, isiG_bool, isiG_tuple, isiG_list, isiG_dict, few_s, List.getElem?_cons_zero, List.getElem?_cons_succ, List.getElem?_nil, List.set_cons_zero, List.set_cons_succ, e_add, e_sub, e_lt, e_le, e_gt, e_ge, e_eqI, e_neI, e_eqS, e_neS, e_eqB, e_neB, e_isB, e_notB, e_lenL, e_lenT, e_in1, e_notIn1, e_max, e_min, e_intI, e_intB, Bool.not_true, Bool.not_false, decide_true, decide_false, Nat.reduceAdd, a_callO, a_isOw, hd1, hd2, i7, t1, t2, t3, t4, t5, t6, a_upM, hxz, e_slT, e_ix0, lst1, e_catL10]
          cases hb : (bentL x r nm)[(drawn ns k 10).toNat]? with
          | none => rw [hb] at hg; cases hg
          | some y =>
            rw [hb] at hg
            cases hg
            have ix : ixG (.lst (bentL x r nm)) (.int (drawn ns k 10)) = some d := e_ixL (n := (drawn ns k 10).toNat) (Int.toNat_of_nonneg c1).symm hb
            unfold bentL at ix
            simp only [List.cons_append, List.nil_append] at ix
            simp -implicitDefEqProofs only [List.map, List.replicate, List.append, List.cons_append, List.nil_append, List.length, a_bnd, a_ret, a_nope, a_lft, a_rdV, a_getF, a_lookF, a_lookS, a_stillF, a_stillS, a_asRv, a_mop, a_seq, a_ifS, a_ifM, a_notM, a_asB1, a_andV, a_orV, a_notV, a_chain, a_consM, a_looks0, a_looks, a_stills0, a_stills, a_callM, a_callS, a_retM, a_setM, a_setO, a_drpM, a_appM, a_isOwL, a_lstM, a_tupM, a_negM, a_someM, a_slM, a_compM, a_forM, a_asS1, a_asL1, a_asT1, a_rng1, a_enum, a_repM, a_strM1, a_parM, a_iT, a_iF, a_iTr, a_iFr, if_true, if_false, Bool.false_eq_true, Bool.true_eq_false, not_true, not_false_iff, isiG_str, isiG_int, isiG_bool, isiG_tuple, isiG_list, isiG_dict, few_s, List.getElem?_cons_zero, List.getElem?_cons_succ, List.getElem?_nil, List.set_cons_zero, List.set_cons_succ, e_add, e_sub, e_lt, e_le, e_gt, e_ge, e_eqI, e_neI, e_eqS, e_neS, e_eqB, e_neB, e_isB, e_notB, e_lenL, e_lenT, e_in1, e_notIn1, e_max, e_min, e_intI, e_intB, Bool.not_true, Bool.not_false, decide_true, decide_false, Nat.reduceAdd, ix]
            exact ⟨_, rfl⟩
        · cases hg
      · cases hg
  case hne => exact specO_noex _

def gLaw : List D → Option D
  | [.lst ds] => match intsOf ds with
    | some ns => if ns.length ≤ 63 then some (.bl true) else none
    | none => none
  | _ => none
abbrev G_law := specF gLaw
def lettersL : List Nat := ("abcdefghijklmnopqrstuvwxyz" : Str).cps.toList
theorem letters_ok : ∀ c ∈ lettersL, c < 0x110000 := by decide +kernel
theorem letters_len : lettersL.length = 26 := by decide +kernel
theorem e_letter {i : Int} (h0 : 0 ≤ i) (h1 : i < 26) : ∃ c, c < 0x110000 ∧ ixG (.str "abcdefghijklmnopqrstuvwxyz") (.int i) = some (.str ⟨#[c]⟩) := by
  have hl : i.toNat < lettersL.length := by rw [letters_len]; omega
  exact ⟨lettersL[i.toNat], letters_ok _ (List.getElem_mem hl), e_ixS (n := i.toNat) (by decide +kernel) (Int.toNat_of_nonneg h0).symm (List.getElem?_eq_getElem hl)⟩
/-- what may be bent -/
def vb (v : D) : Prop := ∃ x r, v = .tup (.str x :: r) ∧ x ∈ wWORDS ∧ gd 6 v = true ∧ r.length ≤ 500
theorem bent_at (nn : List Int) (k : Nat) {v : D} (h : vb v) : ∃ d, gBent (poolD nn k) [v] = some (d, poolD nn (k + 2)) ∧ gd 7 d = true := by
  obtain ⟨x, r, rfl, hx, hg, hr⟩ := h
  have b1 := drawn_lo nn (k + 1) (m := 7) (by decide)
  have b2 := drawn_hi nn (k + 1) (m := 7) (by decide)
  have c1 := drawn_lo nn k (m := 10) (by decide)
  have c2 := drawn_hi nn k (m := 10) (by decide)
  have hn : nm7.getD (drawn nn (k + 1) 7).toNat .non ∈ nm7 := by
    have hlt : (drawn nn (k + 1) 7).toNat < nm7.length := by show _ < 7; omega
    rw [List.getD_eq_getElem?_getD, List.getElem?_eq_getElem hlt]
    exact List.getElem_mem hlt
  have hlt : (drawn nn k 10).toNat < (bentL x r (nm7.getD (drawn nn (k + 1) 7).toNat .non)).length := by show _ < 10; omega
  refine ⟨(bentL x r (nm7.getD (drawn nn (k + 1) 7).toNat .non))[(drawn nn k 10).toNat], ?_, bent_ok hx hg hr hn _ (List.getElem_mem hlt)⟩
  unfold gBent
  rw [poolOf_mk]
  simp only []
  rw [if_pos ⟨hx, hg, hr⟩, List.getElem?_eq_getElem hlt]
  rfl
theorem lit_words : ([.str "look", .str "hold", .str "try", .str "let", .str "enter", .str "leave", .str "touch", .str "use", .str "lock", .str "unlock", .str "out", .str "wait", .str "empty", .str "down", .str "start", .str "ask", .str "mark", .str "bar", .str "forget", .str "idle", .str "come", .str "", .str "step"] : List D) = wWORDS.map D.str := rfl
theorem cut310 : DL.cutD (wWORDS.map D.str) (some 3) (some 10) = [.str "let", .str "enter", .str "leave", .str "touch", .str "use", .str "lock", .str "unlock"] := rfl
theorem in310 : ∀ d ∈ ([.str "let", .str "enter", .str "leave", .str "touch", .str "use", .str "lock", .str "unlock"] : List D), gd 1 d = true := by decide +kernel
theorem law_at (ns : List Int) (h : ns.length ≤ 63) : gLaw [.lst (ns.map .int)] = some (.bl true) := by
  unfold gLaw
  simp only [intsOf_map, h, if_true]

abbrev s_law : Stmt := topS 50
theorem sc_law : FnScope ["_law_script", "_law_words", "_law_k", "_law_cell", "_law_pool_here", "_law_letters", "_law_name", "_law_values", "_law_inner", "_law_thing", "_law_turn", "_law_word", "_law_value"] ["_law_script"] (defScope s_law) := ⟨rfl, rfl, rfl, by decide +kernel, rfl, by decide +kernel, by decide +kernel⟩
theorem ok_law {f : Addr} {fd : FuncData} (F : Fun K "law" "law" s_law f fd) (T : Txt K mg) (d__law_pool : DfnN P w K mg base CX0 2 "_law_pool" 3 G__law_pool) (d__law_draw : Dfn P w K mg base CX0 1 "_law_draw" 2 G__law_draw) (d__law_pick : Dfn P w K mg base CX0 2 "_law_pick" 2 G__law_pick) (d__law_right : Dfn P w K mg base CX0 5 "_law_right" 1 G__law_right) (d__law_bent : Dfn P w K mg base CX0 2 "_law_bent" 2 G__law_bent) : FnOk P w K mg base CX0 6 f fd ["_law_script"] (spD K 1 G_law) := by
  refine okD F sc_law rfl (fun cdv A outer s H E hr => ⟨_, (jss_cons (js_set 1 (JN.je (j_lst (ja_cons (JE.rv j_str) (ja_cons (JE.rv j_str) (ja_cons (JE.rv j_str) (ja_cons (JE.rv j_str) (ja_cons (JE.rv j_str) (ja_cons (JE.rv j_str) (ja_cons (JE.rv j_str) (ja_cons (JE.rv j_str) (ja_cons (JE.rv j_str) (ja_cons (JE.rv j_str) (ja_cons (JE.rv j_str) (ja_cons (JE.rv j_str) (ja_cons (JE.rv j_str) ja_nil))))))))))))))) sc_law.nd (by first | exact Or.inl rfl | exact Or.inr rfl))
      (jss_cons (js_set 1 (j_op op_addA od_addA (jr 1) (JE.rv (JN.je (j_lst (ja_cons (JE.rv j_str) (ja_cons (JE.rv j_str) (ja_cons (JE.rv j_str) (ja_cons (JE.rv j_str) (ja_cons (JE.rv j_str) (ja_cons (JE.rv j_str) (ja_cons (JE.rv j_str) (ja_cons (JE.rv j_str) (ja_cons (JE.rv j_str) (ja_cons (JE.rv j_str) ja_nil)))))))))))))) sc_law.nd (by first | exact Or.inl rfl | exact Or.inr rfl))
      (jss_cons (js_for (own := [2, 3]) PassesOwn.never rfl (ji_enum T.z_enumerate (by rfl) (ja_cons (JE.rv (j_op op_addA od_addA (JE.rv (j_sl (jr 0) jo_none (jo_some (JE.rv j_int)))) (JE.rv (JN.je (j_rep (j_lst (ja_cons (JE.rv j_int) ja_nil)) (JE.rv (j_callT call_int1 cd_int boot_int T.z_int (by rfl) (ja_cons (JE.rv (j_cmp (op_eqA hr.units) od_eq (jr 0) (JE.rv (JN.je (j_lst ja_nil))) (nomark _))) ja_nil)))))))) ja_nil)) (jg_tup (n := 2) rfl (jgs_cons (jg_name (i := 2) sc_law.nd rfl (by first | exact Or.inl rfl | exact Or.inr rfl) (by decide)) (jgs_cons (jg_name (i := 3) sc_law.nd rfl (by first | exact Or.inl rfl | exact Or.inr rfl) (by decide)) jgs_nil)))
      (jss_cons (js_setO 4 (j_callN d__law_pool (hr.mono (by decide)) pass0 (by rfl) (ja_cons (JE.rv (jv 3)) (ja_cons (JE.rv (j_op op_addA od_addA (JE.rv j_int) (jr 2))) (ja_cons (JE.rv j_int) ja_nil)))) sc_law.nd (by first | exact Or.inl rfl | exact Or.inr rfl))
      (jss_cons (js_set 5 j_str sc_law.nd (by first | exact Or.inl rfl | exact Or.inr rfl))
      (jss_cons (js_set 6 (j_join j_str (JE.rv (JN.je (j_lc (own := [("_law_turn", 10)]) rfl sc_law.nd (blkOk_by (N := ["_law_script", "_law_words", "_law_k", "_law_cell", "_law_pool_here", "_law_letters", "_law_name", "_law_values", "_law_inner", "_law_thing", "_law_turn", "_law_word", "_law_value"]) (sc := defScope s_law) (by decide +kernel)) (ji_rng1 T.z_range (by rfl) (ja_cons (JE.rv (j_op op_addA od_addA (JE.rv j_int) (JE.rv (j_callO 4 d__law_draw (hr.mono (by decide)) pass0 (by rfl) (ja_cons (JE.rv j_int) ja_nil))))) ja_nil)) (fun _ _ _ _ _ => (jg_name (i := 10) sc_law.nd rfl (by first | exact Or.inl rfl | exact Or.inr rfl) (by decide))) (fun _ _ _ _ _ => jts_nil) (fun _ _ _ _ _ => (j_ix (jr 5) (JE.rv (j_callO 4 d__law_draw (hr.mono (by decide)) pass0 (by rfl) (ja_cons (JE.rv j_int) ja_nil))))))))) sc_law.nd (by first | exact Or.inl rfl | exact Or.inr rfl))
      (jss_cons (js_set 7 (j_op op_addA od_addA (JE.rv (JN.je (j_lc (own := [("_law_word", 11)]) rfl sc_law.nd (blkOk_by (N := ["_law_script", "_law_words", "_law_k", "_law_cell", "_law_pool_here", "_law_letters", "_law_name", "_law_values", "_law_inner", "_law_thing", "_law_turn", "_law_word", "_law_value"]) (sc := defScope s_law) (by decide +kernel)) (ji_list (jv 1)) (fun _ _ _ _ _ => (jg_name (i := 11) sc_law.nd rfl (by first | exact Or.inl rfl | exact Or.inr rfl) (by decide))) (fun _ _ _ _ _ => jts_nil) (fun _ _ _ _ _ => (j_tup (ja_cons (JE.rv (jv 11)) ja_nil)))))) (JE.rv (JN.je (j_lc (own := [("_law_word", 11)]) rfl sc_law.nd (blkOk_by (N := ["_law_script", "_law_words", "_law_k", "_law_cell", "_law_pool_here", "_law_letters", "_law_name", "_law_values", "_law_inner", "_law_thing", "_law_turn", "_law_word", "_law_value"]) (sc := defScope s_law) (by decide +kernel)) (ji_list (jv 1)) (fun _ _ _ _ _ => (jg_name (i := 11) sc_law.nd rfl (by first | exact Or.inl rfl | exact Or.inr rfl) (by decide))) (fun _ _ _ _ _ => jts_nil) (fun _ _ _ _ _ => (j_tup (ja_cons (JE.rv (jv 11)) (ja_cons (JE.rv (jv 6)) ja_nil)))))))) sc_law.nd (by first | exact Or.inl rfl | exact Or.inr rfl))
      (jss_cons (js_setLc 8 (own := [("_law_turn", 10)]) rfl sc_law.nd rfl (sw_true rfl rfl rfl (by decide +kernel)) (blkOk_by (N := ["_law_script", "_law_words", "_law_k", "_law_cell", "_law_pool_here", "_law_letters", "_law_name", "_law_values", "_law_inner", "_law_thing", "_law_turn", "_law_word", "_law_value"]) (sc := defScope s_law) (by decide +kernel)) (ji_rng1 T.z_range (by rfl) (ja_cons (JE.rv (j_callO 4 d__law_draw (hr.mono (by decide)) pass0 (by rfl) (ja_cons (JE.rv j_int) ja_nil))) ja_nil)) (fun _ _ _ _ _ => (jg_name (i := 10) sc_law.nd rfl (by first | exact Or.inl rfl | exact Or.inr rfl) (by decide))) (fun _ _ _ _ _ => jts_nil) (fun _ _ _ _ _ => (j_tup (ja_cons (JE.rv (j_callO 4 d__law_pick (hr.mono (by decide)) pass0 (by rfl) (ja_cons (JE.rv (j_sl (jr 1) (jo_some (JE.rv j_int)) (jo_some (JE.rv j_int)))) ja_nil))) ja_nil))))
      (jss_cons (js_set 8 (j_op op_addA od_addA (jr 8) (JE.rv (JN.je (j_lst (ja_cons (JE.rv (j_callO 4 d__law_pick (hr.mono (by decide)) pass0 (by rfl) (ja_cons (JE.rv (JN.je (j_lst (ja_cons (JE.rv (j_tup (ja_cons (JE.rv j_str) (ja_cons (JE.rv (jv 6)) ja_nil)))) (ja_cons (JE.rv (j_tup (ja_cons (JE.rv j_str) ja_nil))) (ja_cons (JE.rv (j_tup (ja_cons (JE.rv j_str) ja_nil))) (ja_cons (JE.rv (j_tup (ja_cons (JE.rv j_str) (ja_cons (JE.rv (jv 6)) (ja_cons (JE.rv (j_tup ja_nil)) ja_nil))))) (ja_cons (JE.rv (JN.je (j_lst (ja_cons (JE.rv j_str) ja_nil)))) (ja_cons (JE.rv j_non) ja_nil))))))))) ja_nil))) ja_nil))))) sc_law.nd (by first | exact Or.inl rfl | exact Or.inr rfl))
      (jss_cons (js_set 7 (j_op op_addA od_addA (jr 7) (JE.rv (JN.je (j_lst (ja_cons (JE.rv (j_tup (ja_cons (JE.rv j_str) (ja_cons (JE.rv (jv 6)) (ja_cons (JE.rv (j_callT call_tuple_of cd_tuple boot_tuple T.z_tuple (by rfl) (ja_cons (jr 8) ja_nil))) ja_nil))))) (ja_cons (JE.rv (j_tup (ja_cons (JE.rv j_str) (ja_cons (JE.rv (jv 6)) (ja_cons (JE.rv (j_callT call_tuple_of cd_tuple boot_tuple T.z_tuple (by rfl) (ja_cons (JE.rv (j_sl (jr 8) jo_none (jo_some (JE.rv (j_neg (JE.rv j_int)))))) ja_nil))) ja_nil))))) (ja_cons (JE.rv (j_tup (ja_cons (JE.rv j_str) (ja_cons (JE.rv (jv 6)) (ja_cons (JE.rv (jv 8)) ja_nil))))) ja_nil))))))) sc_law.nd (by first | exact Or.inl rfl | exact Or.inr rfl))
      (jss_cons (js_set 7 (j_op op_addA od_addA (jr 7) (JE.rv (JN.je (j_lc (own := [("_law_value", 12)]) rfl sc_law.nd (blkOk_by (N := ["_law_script", "_law_words", "_law_k", "_law_cell", "_law_pool_here", "_law_letters", "_law_name", "_law_values", "_law_inner", "_law_thing", "_law_turn", "_law_word", "_law_value"]) (sc := defScope s_law) (by decide +kernel)) (ji_list (jv 7)) (fun _ _ _ _ _ => (jg_name (i := 12) sc_law.nd rfl (by first | exact Or.inl rfl | exact Or.inr rfl) (by decide))) (fun _ _ _ _ _ => jts_nil) (fun _ _ _ _ _ => (j_callO 4 d__law_bent (hr.mono (by decide)) pass0 (by rfl) (ja_cons (JE.rv (jv 12)) ja_nil))))))) sc_law.nd (by first | exact Or.inl rfl | exact Or.inr rfl))
      (jss_one (js_if (jt_cmp (op_neA hr.units) od_ne (JE.rv (JN.je (j_lc (own := [("_law_value", 12)]) rfl sc_law.nd (blkOk_by (N := ["_law_script", "_law_words", "_law_k", "_law_cell", "_law_pool_here", "_law_letters", "_law_name", "_law_values", "_law_inner", "_law_thing", "_law_turn", "_law_word", "_law_value"]) (sc := defScope s_law) (by decide +kernel)) (ji_list (jv 7)) (fun _ _ _ _ _ => (jg_name (i := 12) sc_law.nd rfl (by first | exact Or.inl rfl | exact Or.inr rfl) (by decide))) (fun _ _ _ _ _ => (jts_one (jt_not (jt_val (j_call d__law_right (hr.mono (by decide)) pass0 (by rfl) (ja_cons (JE.rv (jv 12)) ja_nil)))))) (fun _ _ _ _ _ => (jv 12))))) (JE.rv (JN.je (j_lst ja_nil))) (nomark _)) (jss_one (js_ret j_bl)) jss_nil)))))))))))
      (jss_cons (js_for (own := [9]) PassesOwn.never rfl (ji_list (JN.je (j_lst (ja_cons (JE.rv j_non) (ja_cons (JE.rv j_int) (ja_cons (JE.rv j_bl) (ja_cons (JE.rv j_str) (ja_cons (JE.rv (JN.je (j_lst ja_nil))) (ja_cons (JE.rv (JN.je (j_lst (ja_cons (JE.rv j_str) ja_nil)))) (ja_cons (JE.rv (JN.je j_dct0)) (ja_cons (JE.rv (j_tup ja_nil)) (ja_cons (JE.rv (j_tup (ja_cons (JE.rv (j_tup ja_nil)) ja_nil))) (ja_cons (JE.rv (j_tup (ja_cons (JE.rv j_non) ja_nil))) (ja_cons (JE.rv (j_tup (ja_cons (JE.rv (JN.je (j_lst (ja_cons (JE.rv j_str) ja_nil)))) ja_nil))) (ja_cons (JE.rv (j_tup (ja_cons (JE.rv j_int) (ja_cons (JE.rv j_str) ja_nil)))) ja_nil))))))))))))))) (jg_name (i := 9) sc_law.nd rfl (by first | exact Or.inl rfl | exact Or.inr rfl) (by decide))
      (jss_one (js_if (jt_not (jt_val (j_call d__law_right (hr.mono (by decide)) pass0 (by rfl) (ja_cons (JE.rv (jv 9)) ja_nil)))) (jss_one (js_ret j_bl)) jss_nil)))
      (jss_one (js_ret j_bl))))))⟩) ?hG ?hne
  case hG =>
    refine tells_F (m := 12) fun ds d hl hg0 => ?_
    match ds, hl, hg0 with
    | [.non], _, hg | [.bl _], _, hg | [.int _], _, hg | [.str _], _, hg | [.tup _], _, hg | [.dct _], _, hg | [.obj _ _], _, hg | [.cls _], _, hg => cases hg
    | [.lst xs], _, hg =>
      replace hg : (match intsOf xs with
        | some ns => if ns.length ≤ 63 then some (D.bl true) else none
        | none => none) = some d := hg
      cases hns : intsOf xs with
      | none => rw [hns] at hg; cases hg
      | some ns =>
        rw [hns] at hg
        by_cases h63 : ns.length ≤ 63
        · simp only [h63, if_true] at hg
          cases hg
          have hx := intsOf_some hns
          subst hx
          have hq := e_nilL (shp_ints ns)
          have hw : addA (.lst [.str "look", .str "hold", .str "try", .str "let", .str "enter", .str "leave", .str "touch", .str "use", .str "lock", .str "unlock", .str "out", .str "wait", .str "empty"]) (.lst [.str "down", .str "start", .str "ask", .str "mark", .str "bar", .str "forget", .str "idle", .str "come", .str "", .str "step"]) = some (.lst (wWORDS.map .str)) := e_catL (szk (show 13 + 10 ≤ 100000 by decide))
          simp -implicitDefEqProofs only [List.map, List.replicate, List.append, List.cons_append, List.nil_append, List.length, a_bnd, a_ret, a_nope, a_lft, a_rdV, a_getF, a_lookF, a_lookS, a_stillF, a_stillS, a_asRv, a_mop, a_seq, a_ifS, a_ifM, a_notM, a_asB1, a_andV, a_orV, a_notV, a_chain, a_consM, a_looks0, a_looks, a_stills0, a_stills, a_callM, a_callS, a_retM, a_setM, a_setO, a_drpM, a_appM, a_isOwL, a_lstM, a_tupM, a_negM, a_someM, a_slM, a_compM, a_forM, a_asS1, a_asL1, a_asT1, a_rng1, a_enum, a_repM, a_strM1, a_parM, a_iT, a_iF, a_iTr, a_iFr, if_true, if_false, Bool.false_eq_true, Bool.true_eq_false, not_true, not_false_iff, isiG_str, isiG_int, isiG_bool, isiG_tuple, isiG_list, isiG_dict, few_s, List.getElem?_cons_zero, List.getElem?_cons_succ, List.getElem?_nil, List.set_cons_zero, List.set_cons_succ, e_add, e_sub, e_lt, e_le, e_gt, e_ge, e_eqI, e_neI, e_eqS, e_neS, e_eqB, e_neB, e_isB, e_notB, e_lenL, e_lenT, e_in1, e_notIn1, e_max, e_min, e_intI, e_intB, Bool.not_true, Bool.not_false, decide_true, decide_false, Nat.reduceAdd, hq, hw, e_slL, cutD_map]
          generalize ht : (if (List.map D.int ns).isEmpty = true then (1 : Int) else 0) = t
          have ht1 : 0 ≤ t ∧ t ≤ 1 := by
            rw [← ht]
            split <;> omega
          have hcond : (-(2 ^ 63) ≤ t ∧ t < 2 ^ 63 ∧ 1 * t.toNat ≤ sizeLine) := ⟨by omega, by omega, by rw [Nat.one_mul]; exact szk (by omega)⟩
          have hcl := cutD_length ns none (some 8)
          have hcat : addA (.lst (List.map D.int (DL.cutD ns none (some 8)))) (.lst (List.map D.int (List.replicate t.toNat 7))) = _ := e_catL (by rw [List.length_map, List.length_map, List.length_replicate]; exact szk (by omega))
          rw [← List.map_append] at hcat
          simp -implicitDefEqProofs only [List.map, List.replicate, List.append, List.cons_append, List.nil_append, List.length, a_bnd, a_ret, a_nope, a_lft, a_rdV, a_getF, a_lookF, a_lookS, a_stillF, a_stillS, a_asRv, a_mop, a_seq, a_ifS, a_ifM, a_notM, a_asB1, a_andV, a_orV, a_notV, a_chain, a_consM, a_looks0, a_looks, a_stills0, a_stills, a_callM, a_callS, a_retM, a_setM, a_setO, a_drpM, a_appM, a_isOwL, a_lstM, a_tupM, a_negM, a_someM, a_slM, a_compM, a_forM, a_asS1, a_asL1, a_asT1, a_rng1, a_enum, a_repM, a_strM1, a_parM, a_iT, a_iF, a_iTr, a_iFr, if_true, if_false, Bool.false_eq_true, Bool.true_eq_false, not_true, not_false_iff, isiG_str, isiG_int, isiG_bool, isiG_tuple, isiG_list, isiG_dict, few_s, List.getElem?_cons_zero, List.getElem?_cons_succ, List.getElem?_nil, List.set_cons_zero, List.set_cons_succ, e_add, e_sub, e_lt, e_le, e_gt, e_ge, e_eqI, e_neI, e_eqS, e_neS, e_eqB, e_neB, e_isB, e_notB, e_lenL, e_lenT, e_in1, e_notIn1, e_max, e_min, e_intI, e_intB, Bool.not_true, Bool.not_false, decide_true, decide_false, Nat.reduceAdd, hcond, and_self, rep_flat D.int 7, hcat]
          generalize hcells : DL.cutD ns none (some 8) ++ List.replicate t.toNat 7 = cells
          have hcz : cells.length ≤ 64 := by rw [← hcells, List.length_append, List.length_replicate]; omega
          generalize hF : forL _ _ (enumD (List.map D.int cells)) _ = r
          have hP := forL_ofE hF (fun i e => ∃ a1 a2 a3 a4 a5 a6 a7, e = [.fz (.lst (ns.map .int)), (.fz (.lst (wWORDS.map .str))), a1, a2, a3, a4, a5, a6, a7, .un, .un, .un, .un])
            ⟨_, _, _, _, _, _, _, rfl⟩ (by
              rintro j d e hj ⟨a1, a2, a3, a4, a5, a6, a7, rfl⟩
              obtain ⟨c, hc, rfl⟩ := enumD_get hj
              rw [List.getElem?_map] at hc
              cases hcj : cells[j]? with
              | none => rw [hcj] at hc; cases hc
              | some cell =>
                rw [hcj] at hc
                cases hc
                have hjl := (List.getElem?_eq_some_iff.mp hcj).1
                have gp : gPool [.int cell, .int (300 + (j : Int)), .int 200] = some (poolD (numbers cell (300 + (j : Int)) (List.replicate 200 420)) 0) := by
                  show (if 0 ≤ 300 + (j : Int) ∧ 300 + (j : Int) ≤ 100000 ∧ (0 : Int) ≤ 200 ∧ (200 : Int) ≤ 1000 then _ else _) = _
                  rw [if_pos ⟨by omega, by omega, by decide, by decide⟩]; rfl
                generalize numbers cell (300 + (j : Int)) (List.replicate 200 420) = nn at gp
                have hd0 := gDraw_mk nn 0 (m := 8) (by decide)
                have q1 := drawn_lo nn 0 (m := 8) (by decide)
                have q2 := drawn_hi nn 0 (m := 8) (by decide)
                have hr8 : (-(2 ^ 62) ≤ 1 + drawn nn 0 8 ∧ 1 + drawn nn 0 8 < 2 ^ 62) := ⟨by omega, by omega⟩
                refine ⟨_, rfl, ?_⟩
                simp -implicitDefEqProofs only [List.map, List.replicate, List.append, List.cons_append, List.nil_append, List.length, a_bnd, a_ret, a_nope, a_lft, a_rdV, a_getF, a_lookF, a_lookS, a_stillF, a_stillS, a_asRv, a_mop, a_seq, a_ifS, a_ifM, a_notM, a_asB1, a_andV, a_orV, a_notV, a_chain, a_consM, a_looks0, a_looks, a_stills0, a_stills, a_callM, a_callS, a_retM, a_setM, a_setO, a_drpM, a_appM, a_isOwL, a_lstM, a_tupM, a_negM, a_someM, a_slM, a_compM, a_forM, a_asS1, a_asL1, a_asT1, a_rng1, a_enum, a_repM, a_strM1, a_parM, a_iT, a_iF, a_iTr, a_iFr, if_true, if_false, Bool.false_eq_true, Bool.true_eq_false, not_true, not_false_iff, isiG_str, isiG_int, isiG_bool, isiG_tuple, isiG_list, isiG_dict, few_s, List.getElem?_cons_zero, List.getElem?_cons_succ, List.getElem?_nil, List.set_cons_zero, List.set_cons_succ, e_add, e_sub, e_lt, e_le, e_gt, e_ge, e_eqI, e_neI, e_eqS, e_neS, e_eqB, e_neB, e_isB, e_notB, e_lenL, e_lenT, e_in1, e_notIn1, e_max, e_min, e_intI, e_intB, Bool.not_true, Bool.not_false, decide_true, decide_false, Nat.reduceAdd, gp, a_callSN, a_callO, a_isOw, hd0, hr8, and_self]
                generalize hC : compA [10] _ _ _ (rngD 0 _) _ = rc
                have hI := compA_of hC (fun i acc env => ∃ k, env = [.fz (.lst (ns.map .int)), .fz (.lst (wWORDS.map .str)), .fz (.int j), .fz (.int cell), .ow none (poolD nn k), .fz (.str "abcdefghijklmnopqrstuvwxyz"), a5, a6, a7, .un, .un, .un, .un] ∧ acc.length = i ∧ ∀ y ∈ acc, ∃ c, c < 0x110000 ∧ y = .str ⟨#[c]⟩)
                  ⟨_, rfl, rfl, fun _ h => by cases h⟩ (by rw [rngD_length]; exact szk (by omega)) (by
                    rintro i d acc env hi ⟨k, rfl, hl, hy⟩
                    obtain ⟨_, rfl⟩ := rngD_get hi
                    obtain ⟨c, hc, hix⟩ := e_letter (drawn_lo nn k (m := 26) (by decide)) (drawn_hi nn k (m := 26) (by decide))
                    have hd := gDraw_mk nn k (m := 26) (by decide)
                    refine ⟨_, _, true, rfl, rfl, (fun h => by cases h), fun _ => ⟨.str ⟨#[c]⟩, [.fz (.lst (ns.map .int)), .fz (.lst (wWORDS.map .str)), .fz (.int j), .fz (.int cell), .ow none (poolD nn (k + 1)), .fz (.str "abcdefghijklmnopqrstuvwxyz"), a5, a6, a7, .un, .fz (.int (0 + (i : Nat))), .un, .un], ?_, k + 1, rfl, by rw [List.length_append, hl]; rfl, fun y h => ?_⟩⟩
                    · simp -implicitDefEqProofs only [List.map, List.replicate, List.append, List.cons_append, List.nil_append, List.length, a_bnd, a_ret, a_nope, a_lft, a_rdV, a_getF, a_lookF, a_lookS, a_stillF, a_stillS, a_asRv, a_mop, a_seq, a_ifS, a_ifM, a_notM, a_asB1, a_andV, a_orV, a_notV, a_chain, a_consM, a_looks0, a_looks, a_stills0, a_stills, a_callM, a_callS, a_retM, a_setM, a_setO, a_drpM, a_appM, a_isOwL, a_lstM, a_tupM, a_negM, a_someM, a_slM, a_compM, a_forM, a_asS1, a_asL1, a_asT1, a_rng1, a_enum, a_repM, a_strM1, a_parM, a_iT, a_iF, a_iTr, a_iFr, if_true, if_false, Bool.false_eq_true, Bool.true_eq_false, not_true, not_false_iff, isiG_str, isiG_int, isiG_bool, isiG_tuple, isiG_list, isiG_dict, few_s, List.getElem?_cons_zero, List.getElem?_cons_succ, List.getElem?_nil, List.set_cons_zero, List.set_cons_succ, e_add, e_sub, e_lt, e_le, e_gt, e_ge, e_eqI, e_neI, e_eqS, e_neS, e_eqB, e_neB, e_isB, e_notB, e_lenL, e_lenT, e_in1, e_notIn1, e_max, e_min, e_intI, e_intB, Bool.not_true, Bool.not_false, decide_true, decide_false, Nat.reduceAdd, a_callO, a_isOw, hd, hix]
                    · rcases List.mem_append.mp h with z | z
                      · exact hy y z
                      · exact ⟨c, hc, List.mem_singleton.mp z⟩)
                obtain ⟨ys, env', rfl, k1, rfl, hyl, hys⟩ := hI
                rw [rngD_length] at hyl
                obtain ⟨nmS, hj1, hj2, hj3⟩ := join_signs hys (by omega)
                have gnm : gd 1 (.str nmS) = true := gd_str_mk (by omega) hj3
                clear hC hys
                have hd1 := gDraw_mk nn k1 (m := 6) (by decide)
                have p1 := drawn_lo nn k1 (m := 6) (by decide)
                have p2 := drawn_hi nn k1 (m := 6) (by decide)
                have hr6 : (-(2 ^ 62) ≤ drawn nn k1 6 ∧ drawn nn k1 6 < 2 ^ 62) := ⟨by omega, by omega⟩
                have hwz : wWORDS.length ≤ sizeLine := by decide
                have hc1 : ∀ (h : D → Fm → Option Fm) (hh : h = fun d env => some (env.set 11 (.fz d))), compA [11] h (DL.ret true) (tupM (consM (asRv (getF 11)) (DL.ret []))) (wWORDS.map .str) [.fz (.lst (ns.map .int)), .fz (.lst (wWORDS.map .str)), .fz (.int j), .fz (.int cell), .ow none (poolD nn k1), .fz (.str "abcdefghijklmnopqrstuvwxyz"), .fz (.str nmS), a6, a7, .un, .un, .un, .un]
                    = .ok (.lst (wWORDS.map fun w => .tup [.str w])) [.fz (.lst (ns.map .int)), .fz (.lst (wWORDS.map .str)), .fz (.int j), .fz (.int cell), .ow none (poolD nn k1), .fz (.str "abcdefghijklmnopqrstuvwxyz"), .fz (.str nmS), a6, a7, .un, .un, .un, .un] := by
                  rintro _ rfl
                  exact compA_map (fun w => .tup [.str w]) _ rfl hwz fun w _ => ⟨_, _, _, rfl, rfl, rfl, rfl⟩
                have hc1 := hc1 _ rfl
                have hc2 : ∀ (h : D → Fm → Option Fm) (hh : h = fun d env => some (env.set 11 (.fz d))), compA [11] h (DL.ret true) (tupM (consM (asRv (getF 11)) (consM (asRv (getF 6)) (DL.ret [])))) (wWORDS.map .str) [.fz (.lst (ns.map .int)), .fz (.lst (wWORDS.map .str)), .fz (.int j), .fz (.int cell), .ow none (poolD nn k1), .fz (.str "abcdefghijklmnopqrstuvwxyz"), .fz (.str nmS), a6, a7, .un, .un, .un, .un]
                    = .ok (.lst (wWORDS.map fun w => .tup [.str w, .str nmS])) [.fz (.lst (ns.map .int)), .fz (.lst (wWORDS.map .str)), .fz (.int j), .fz (.int cell), .ow none (poolD nn k1), .fz (.str "abcdefghijklmnopqrstuvwxyz"), .fz (.str nmS), a6, a7, .un, .un, .un, .un] := by
                  rintro _ rfl
                  exact compA_map (fun w => .tup [.str w, .str nmS]) _ rfl hwz fun w _ => ⟨_, _, _, rfl, rfl, rfl, rfl⟩
                have hc2 := hc2 _ rfl
                have hv1 : addA (.lst (wWORDS.map fun w => .tup [.str w])) (.lst (wWORDS.map fun w => .tup [.str w, .str nmS])) = _ := e_catL (by rw [List.length_map, List.length_map]; decide)
                generalize hvs : (wWORDS.map fun w => D.tup [.str w]) ++ (wWORDS.map fun w => .tup [.str w, .str nmS]) = vs at hv1
                simp -implicitDefEqProofs only [List.map, List.replicate, List.append, List.cons_append, List.nil_append, List.length, a_bnd, a_ret, a_nope, a_lft, a_rdV, a_getF, a_lookF, a_lookS, a_stillF, a_stillS, a_asRv, a_mop, a_seq, a_ifS, a_ifM, a_notM, a_asB1, a_andV, a_orV, a_notV, a_chain, a_consM, a_looks0, a_looks, a_stills0, a_stills, a_callM, a_callS, a_retM, a_setM, a_setO, a_drpM, a_appM, a_isOwL, a_lstM, a_tupM, a_negM, a_someM, a_slM, a_compM, a_forM, a_asS1, a_asL1, a_asT1, a_rng1, a_enum, a_repM, a_strM1, a_parM, a_iT, a_iF, a_iTr, a_iFr, if_true, if_false, Bool.false_eq_true, Bool.true_eq_false, not_true, not_false_iff, isiG_str, isiG_int, isiG_bool, isiG_tuple, isiG_list, isiG_dict, few_s, List.getElem?_cons_zero, List.getElem?_cons_succ, List.getElem?_nil, List.set_cons_zero, List.set_cons_succ, e_add, e_sub, e_lt, e_le, e_gt, e_ge, e_eqI, e_neI, e_eqS, e_neS, e_eqB, e_neB, e_isB, e_notB, e_lenL, e_lenT, e_in1, e_notIn1, e_max, e_min, e_intI, e_intB, Bool.not_true, Bool.not_false, decide_true, decide_false, Nat.reduceAdd, hj1, hc1, hc2, hv1, a_callO, a_isOw, hd1, hr6, and_self]
                clear hc1 hc2
                generalize hC : compA [10] _ _ _ (rngD 0 _) _ = rc
                have hI := compA_of hC (fun i acc env => ∃ k, env = [.fz (.lst (ns.map .int)), .fz (.lst (wWORDS.map .str)), .fz (.int j), .fz (.int cell), .ow none (poolD nn k), .fz (.str "abcdefghijklmnopqrstuvwxyz"), .fz (.str nmS), .fz (.lst vs), a7, .un, .un, .un, .un] ∧ acc.length = i ∧ ∀ y ∈ acc, gd 2 y = true)
                  ⟨_, rfl, rfl, fun _ h => by cases h⟩ (by rw [rngD_length]; exact szk (by omega)) (by
                    rintro i d acc env hi ⟨k, rfl, hl, hy⟩
                    obtain ⟨_, rfl⟩ := rngD_get hi
                    obtain ⟨w0, hw0, hpk⟩ := gPick_mk nn k (xs := [.str "let", .str "enter", .str "leave", .str "touch", .str "use", .str "lock", .str "unlock"]) (by decide)
                    refine ⟨_, _, true, rfl, rfl, (fun h => by cases h), fun _ => ⟨.tup [w0], [.fz (.lst (ns.map .int)), .fz (.lst (wWORDS.map .str)), .fz (.int j), .fz (.int cell), .ow none (poolD nn (k + 1)), .fz (.str "abcdefghijklmnopqrstuvwxyz"), .fz (.str nmS), .fz (.lst vs), a7, .un, .fz (.int (0 + (i : Nat))), .un, .un], ?_, k + 1, rfl, by rw [List.length_append, hl]; rfl, fun y h => ?_⟩⟩
                    · simp -implicitDefEqProofs only [List.map, List.replicate, List.append, List.cons_append, List.nil_append, List.length, a_bnd, a_ret, a_nope, a_lft, a_rdV, a_getF, a_lookF, a_lookS, a_stillF, a_stillS, a_asRv, a_mop, a_seq, a_ifS, a_ifM, a_notM, a_asB1, a_andV, a_orV, a_notV, a_chain, a_consM, a_looks0, a_looks, a_stills0, a_stills, a_callM, a_callS, a_retM, a_setM, a_setO, a_drpM, a_appM, a_isOwL, a_lstM, a_tupM, a_negM, a_someM, a_slM, a_compM, a_forM, a_asS1, a_asL1, a_asT1, a_rng1, a_enum, a_repM, a_strM1, a_parM, a_iT, a_iF, a_iTr, a_iFr, if_true, if_false, Bool.false_eq_true, Bool.true_eq_false, not_true, not_false_iff, isiG_str, isiG_int, isiG_bool, isiG_tuple, isiG_list, isiG_dict, few_s, List.getElem?_cons_zero, List.getElem?_cons_succ, List.getElem?_nil, List.set_cons_zero, List.set_cons_succ, e_add, e_sub, e_lt, e_le, e_gt, e_ge, e_eqI, e_neI, e_eqS, e_neS, e_eqB, e_neB, e_isB, e_notB, e_lenL, e_lenT, e_in1, e_notIn1, e_max, e_min, e_intI, e_intB, Bool.not_true, Bool.not_false, decide_true, decide_false, Nat.reduceAdd, a_callO, a_isOw, e_slL, cut310, hpk]
                    · rcases List.mem_append.mp h with z | z
                      · exact hy y z
                      · rw [List.mem_singleton.mp z]
                        exact gd_tup_mk (Nat.le_of_ble_eq_true rfl) fun d hd => by rw [List.mem_singleton.mp hd]; exact in310 w0 hw0)
                obtain ⟨is, env', rfl, k2, rfl, hil, his⟩ := hI
                rw [rngD_length] at hil
                clear hC
                obtain ⟨o1, ho1, hpk⟩ := gPick_mk nn k2 (xs := [.tup [.str "start", .str nmS], .tup [.str "touch"], .tup [.str "try"], .tup [.str "ask", .str nmS, .tup []], .lst [.str "let"], .non]) (Nat.le_of_ble_eq_true rfl)
                have gnm2 : ∀ n, gd (n + 1) (.str nmS) = true := fun n => gd_str_mk (gd_str gnm).1 (gd_str gnm).2
                have go1 : gd 3 o1 = true := by
                  simp only [List.mem_cons, List.not_mem_nil, or_false] at ho1
                  rcases ho1 with rfl | rfl | rfl | rfl | rfl | rfl
                  · exact gd_tup_mk (Nat.le_of_ble_eq_true rfl) fun d hd => by
                      simp only [List.mem_cons, List.not_mem_nil, or_false] at hd
                      rcases hd with rfl | rfl
                      · decide +kernel
                      · exact gnm2 1
                  · decide +kernel
                  · decide +kernel
                  · exact gd_tup_mk (Nat.le_of_ble_eq_true rfl) fun d hd => by
                      simp only [List.mem_cons, List.not_mem_nil, or_false] at hd
                      rcases hd with rfl | rfl | rfl
                      · decide +kernel
                      · exact gnm2 1
                      · decide +kernel
                  · decide +kernel
                  · decide +kernel
                have hil2 : is.length ≤ 6 := by omega
                have hv2 : addA (.lst is) (.lst [o1]) = _ := e_catL (szk (by rw [List.length_singleton]; omega))
                have gis : ∀ d ∈ is ++ [o1], gd 3 d = true := fun d hd => by
                  rcases List.mem_append.mp hd with z | z
                  · exact gd_mono (his d z)
                  · rw [List.mem_singleton.mp z]; exact go1
                have gisl : (is ++ [o1]).length ≤ 7 := by rw [List.length_append, List.length_singleton]; omega
                generalize hin : is ++ [o1] = inn at hv2 gis gisl
                have tp1 : tupleG [.lst inn] = some (.tup inn) := rfl
                have tp2 : tupleG [.lst (DL.cutD inn none (some (-1)))] = some (.tup (DL.cutD inn none (some (-1)))) := rfl
                have hvl : vs.length ≤ 46 := by rw [← hvs, List.length_append, List.length_map, List.length_map]; decide
                have hv3 : addA (.lst vs) (.lst [.tup [.str "ask", .str nmS, .tup inn], .tup [.str "ask", .str nmS, .tup (DL.cutD inn none (some (-1)))], .tup [.str "ask", .str nmS, .lst inn]]) = _ := e_catL (szk (show vs.length + 3 ≤ 100000 by omega))
                have hvb : ∀ v ∈ vs ++ [.tup [.str "ask", .str nmS, .tup inn], .tup [.str "ask", .str nmS, .tup (DL.cutD inn none (some (-1)))], .tup [.str "ask", .str nmS, .lst inn]], vb v := by
                  have ask3 : ∀ z, gd 4 z = true → vb (.tup [.str "ask", .str nmS, z]) := fun z hz => ⟨"ask", [.str nmS, z], rfl, by decide, gd_tup_mk (Nat.le_of_ble_eq_true rfl) fun d hd => by
                    simp only [List.mem_cons, List.not_mem_nil, or_false] at hd
                    rcases hd with rfl | rfl | rfl
                    · decide +kernel
                    · exact gnm2 4
                    · exact gd_mono hz, Nat.le_of_ble_eq_true rfl⟩
                  have wg : ∀ w ∈ wWORDS, ∀ n, gd (n + 1) (.str w) = true := fun w hw n => gd_str_mk (gd_str (words_ok w hw).1).1 (gd_str (words_ok w hw).1).2
                  intro v hv
                  rcases List.mem_append.mp hv with z | z
                  · rw [← hvs] at z
                    rcases List.mem_append.mp z with z | z
                    · obtain ⟨w, hw, rfl⟩ := List.mem_map.mp z
                      exact ⟨w, [], rfl, hw, gd_tup_mk (Nat.le_of_ble_eq_true rfl) fun d hd => by rw [List.mem_singleton.mp hd]; exact wg w hw 4, Nat.le_of_ble_eq_true rfl⟩
                    · obtain ⟨w, hw, rfl⟩ := List.mem_map.mp z
                      exact ⟨w, [.str nmS], rfl, hw, gd_tup_mk (Nat.le_of_ble_eq_true rfl) fun d hd => by
                        simp only [List.mem_cons, List.not_mem_nil, or_false] at hd
                        rcases hd with rfl | rfl
                        · exact wg w hw 4
                        · exact gnm2 4, Nat.le_of_ble_eq_true rfl⟩
                  · simp only [List.mem_cons, List.not_mem_nil, or_false] at z
                    rcases z with rfl | rfl | rfl
                    · exact ask3 _ (gd_tup_mk (by omega) gis)
                    · exact ask3 _ (gd_tup_mk (by have := cutD_length inn none (some (-1)); omega) fun d hd => gis d (cut_mem hd))
                    · exact ask3 _ (gd_lst_mk (by omega) gis)
                have hv3l : (vs ++ ([.tup [.str "ask", .str nmS, .tup inn], .tup [.str "ask", .str nmS, .tup (DL.cutD inn none (some (-1)))], .tup [.str "ask", .str nmS, .lst inn]] : List D)).length ≤ 49 := by rw [List.length_append]; show vs.length + 3 ≤ 49; omega
                generalize vs ++ [.tup [.str "ask", .str nmS, .tup inn], .tup [.str "ask", .str nmS, .tup (DL.cutD inn none (some (-1)))], .tup [.str "ask", .str nmS, .lst inn]] = us at hv3 hvb hv3l
                simp -implicitDefEqProofs only [List.map, List.replicate, List.append, List.cons_append, List.nil_append, List.length, a_bnd, a_ret, a_nope, a_lft, a_rdV, a_getF, a_lookF, a_lookS, a_stillF, a_stillS, a_asRv, a_mop, a_seq, a_ifS, a_ifM, a_notM, a_asB1, a_andV, a_orV, a_notV, a_chain, a_consM, a_looks0, a_looks, a_stills0, a_stills, a_callM, a_callS, a_retM, a_setM, a_setO, a_drpM, a_appM, a_isOwL, a_lstM, a_tupM, a_negM, a_someM, a_slM, a_compM, a_forM, a_asS1, a_asL1, a_asT1, a_rng1, a_enum, a_repM, a_strM1, a_parM, a_iT, a_iF, a_iTr, a_iFr, if_true, if_false, Bool.false_eq_true, Bool.true_eq_false, not_true, not_false_iff, isiG_str, isiG_int, isiG_bool, isiG_tuple, isiG_list, isiG_dict, few_s, List.getElem?_cons_zero, List.getElem?_cons_succ, List.getElem?_nil, List.set_cons_zero, List.set_cons_succ, e_add, e_sub, e_lt, e_le, e_gt, e_ge, e_eqI, e_neI, e_eqS, e_neS, e_eqB, e_neB, e_isB, e_notB, e_lenL, e_lenT, e_in1, e_notIn1, e_max, e_min, e_intI, e_intB, Bool.not_true, Bool.not_false, decide_true, decide_false, Nat.reduceAdd, a_callO, a_isOw, hpk, hv2, tp1, tp2, e_slL, hv3]
                generalize hC : compA [12] _ _ _ us _ = rc
                have hI := compA_of hC (fun i acc env => ∃ k, env = [.fz (.lst (ns.map .int)), .fz (.lst (wWORDS.map .str)), .fz (.int j), .fz (.int cell), .ow none (poolD nn k), .fz (.str "abcdefghijklmnopqrstuvwxyz"), .fz (.str nmS), .fz (.lst us), .fz (.lst inn), .un, .un, .un, .un] ∧ acc.length = i ∧ ∀ y ∈ acc, gd 7 y = true)
                  ⟨_, rfl, rfl, fun _ h => by cases h⟩ (szk (by omega)) (by
                    rintro i d acc env hi ⟨k, rfl, hl, hy⟩
                    obtain ⟨b, hb, hbg⟩ := bent_at nn k (hvb d (List.mem_of_getElem? hi))
                    refine ⟨_, _, true, rfl, rfl, (fun h => by cases h), fun _ => ⟨b, [.fz (.lst (ns.map .int)), .fz (.lst (wWORDS.map .str)), .fz (.int j), .fz (.int cell), .ow none (poolD nn (k + 2)), .fz (.str "abcdefghijklmnopqrstuvwxyz"), .fz (.str nmS), .fz (.lst us), .fz (.lst inn), .un, .un, .un, .fz d], ?_, k + 2, rfl, by rw [List.length_append, hl]; rfl, fun y h => ?_⟩⟩
                    · simp -implicitDefEqProofs only [List.map, List.replicate, List.append, List.cons_append, List.nil_append, List.length, a_bnd, a_ret, a_nope, a_lft, a_rdV, a_getF, a_lookF, a_lookS, a_stillF, a_stillS, a_asRv, a_mop, a_seq, a_ifS, a_ifM, a_notM, a_asB1, a_andV, a_orV, a_notV, a_chain, a_consM, a_looks0, a_looks, a_stills0, a_stills, a_callM, a_callS, a_retM, a_setM, a_setO, a_drpM, a_appM, a_isOwL, a_lstM, a_tupM, a_negM, a_someM, a_slM, a_compM, a_forM, a_asS1, a_asL1, a_asT1, a_rng1, a_enum, a_repM, a_strM1, a_parM, a_iT, a_iF, a_iTr, a_iFr, if_true, if_false, Bool.false_eq_true, Bool.true_eq_false, not_true, not_false_iff, isiG_str, isiG_int, isiG_bool, isiG_tuple, isiG_list, isiG_dict, few_s, List.getElem?_cons_zero, List.getElem?_cons_succ, List.getElem?_nil, List.set_cons_zero, List.set_cons_succ, e_add, e_sub, e_lt, e_le, e_gt, e_ge, e_eqI, e_neI, e_eqS, e_neS, e_eqB, e_neB, e_isB, e_notB, e_lenL, e_lenT, e_in1, e_notIn1, e_max, e_min, e_intI, e_intB, Bool.not_true, Bool.not_false, decide_true, decide_false, Nat.reduceAdd, a_callO, a_isOw, hb]
                    · rcases List.mem_append.mp h with z | z
                      · exact hy y z
                      · rw [List.mem_singleton.mp z]; exact hbg)
                obtain ⟨bs, env', rfl, k3, rfl, hbl, hbs⟩ := hI
                clear hC
                have hv4 : addA (.lst us) (.lst bs) = _ := e_catL (szk (by omega))
                have gall : ∀ d ∈ us ++ bs, okV d = true := fun d hd => by
                  rcases List.mem_append.mp hd with z | z
                  · obtain ⟨x, r, rfl, _, hg, _⟩ := hvb d z
                    exact okV_gd (gd_mono hg)
                  · exact okV_gd (hbs d z)
                have gal : (us ++ bs).length ≤ 100000 := by rw [List.length_append]; omega
                generalize us ++ bs = al at hv4 gall gal
                simp -implicitDefEqProofs only [List.map, List.replicate, List.append, List.cons_append, List.nil_append, List.length, a_bnd, a_ret, a_nope, a_lft, a_rdV, a_getF, a_lookF, a_lookS, a_stillF, a_stillS, a_asRv, a_mop, a_seq, a_ifS, a_ifM, a_notM, a_asB1, a_andV, a_orV, a_notV, a_chain, a_consM, a_looks0, a_looks, a_stills0, a_stills, a_callM, a_callS, a_retM, a_setM, a_setO, a_drpM, a_appM, a_isOwL, a_lstM, a_tupM, a_negM, a_someM, a_slM, a_compM, a_forM, a_asS1, a_asL1, a_asT1, a_rng1, a_enum, a_repM, a_strM1, a_parM, a_iT, a_iF, a_iTr, a_iFr, if_true, if_false, Bool.false_eq_true, Bool.true_eq_false, not_true, not_false_iff, isiG_str, isiG_int, isiG_bool, isiG_tuple, isiG_list, isiG_dict, few_s, List.getElem?_cons_zero, List.getElem?_cons_succ, List.getElem?_nil, List.set_cons_zero, List.set_cons_succ, e_add, e_sub, e_lt, e_le, e_gt, e_ge, e_eqI, e_neI, e_eqS, e_neS, e_eqB, e_neB, e_isB, e_notB, e_lenL, e_lenT, e_in1, e_notIn1, e_max, e_min, e_intI, e_intB, Bool.not_true, Bool.not_false, decide_true, decide_false, Nat.reduceAdd, hv4]
                have hc9 : ∀ (h : D → Fm → Option Fm) (hh : h = fun d env => some (env.set 12 (.fz d))), compA [12] h (DL.notM (bnd (callF 1 G__law_right (consM (asRv (getF 12)) (DL.ret []))) asB)) (getF 12) al [.fz (.lst (ns.map .int)), .fz (.lst (wWORDS.map .str)), .fz (.int j), .fz (.int cell), .ow none (poolD nn k3), .fz (.str "abcdefghijklmnopqrstuvwxyz"), .fz (.str nmS), .fz (.lst al), .fz (.lst inn), .un, .un, .un, .un]
                    = .ok (.lst ((al.filter fun _ => false).map id)) [.fz (.lst (ns.map .int)), .fz (.lst (wWORDS.map .str)), .fz (.int j), .fz (.int cell), .ow none (poolD nn k3), .fz (.str "abcdefghijklmnopqrstuvwxyz"), .fz (.str nmS), .fz (.lst al), .fz (.lst inn), .un, .un, .un, .un] := by
                  rintro _ rfl
                  refine compA_filterD (fun _ => false) id _ rfl (szk gal) fun d hd => ?_
                  have hr := un_at (fun _ => true) (gall d hd)
                  refine ⟨_, [.fz (.lst (ns.map .int)), .fz (.lst (wWORDS.map .str)), .fz (.int j), .fz (.int cell), .ow none (poolD nn k3), .fz (.str "abcdefghijklmnopqrstuvwxyz"), .fz (.str nmS), .fz (.lst al), .fz (.lst inn), .un, .un, .un, .fz d], rfl, ?_, fun _ => rfl, fun h => by cases h⟩
                  simp -implicitDefEqProofs only [List.map, List.replicate, List.append, List.cons_append, List.nil_append, List.length, a_bnd, a_ret, a_nope, a_lft, a_rdV, a_getF, a_lookF, a_lookS, a_stillF, a_stillS, a_asRv, a_mop, a_seq, a_ifS, a_ifM, a_notM, a_asB1, a_andV, a_orV, a_notV, a_chain, a_consM, a_looks0, a_looks, a_stills0, a_stills, a_callM, a_callS, a_retM, a_setM, a_setO, a_drpM, a_appM, a_isOwL, a_lstM, a_tupM, a_negM, a_someM, a_slM, a_compM, a_forM, a_asS1, a_asL1, a_asT1, a_rng1, a_enum, a_repM, a_strM1, a_parM, a_iT, a_iF, a_iTr, a_iFr, if_true, if_false, Bool.false_eq_true, Bool.true_eq_false, not_true, not_false_iff, isiG_str, isiG_int, isiG_bool, isiG_tuple, isiG_list, isiG_dict, few_s, List.getElem?_cons_zero, List.getElem?_cons_succ, List.getElem?_nil, List.set_cons_zero, List.set_cons_succ, e_add, e_sub, e_lt, e_le, e_gt, e_ge, e_eqI, e_neI, e_eqS, e_neS, e_eqB, e_neB, e_isB, e_notB, e_lenL, e_lenT, e_in1, e_notIn1, e_max, e_min, e_intI, e_intB, Bool.not_true, Bool.not_false, decide_true, decide_false, Nat.reduceAdd, hr]
                have hc9 := hc9 _ rfl
                have hff : ((al.filter fun _ => false).map id : List D) = [] := by simp
                rw [hff] at hc9
                have hne : neG (.lst []) (.lst []) = some (.bl false) := e_nenilL shp_nilL
                simp -implicitDefEqProofs only [List.map, List.replicate, List.append, List.cons_append, List.nil_append, List.length, a_bnd, a_ret, a_nope, a_lft, a_rdV, a_getF, a_lookF, a_lookS, a_stillF, a_stillS, a_asRv, a_mop, a_seq, a_ifS, a_ifM, a_notM, a_asB1, a_andV, a_orV, a_notV, a_chain, a_consM, a_looks0, a_looks, a_stills0, a_stills, a_callM, a_callS, a_retM, a_setM, a_setO, a_drpM, a_appM, a_isOwL, a_lstM, a_tupM, a_negM, a_someM, a_slM, a_compM, a_forM, a_asS1, a_asL1, a_asT1, a_rng1, a_enum, a_repM, a_strM1, a_parM, a_iT, a_iF, a_iTr, a_iFr, if_true, if_false, Bool.false_eq_true, Bool.true_eq_false, not_true, not_false_iff, isiG_str, isiG_int, isiG_bool, isiG_tuple, isiG_list, isiG_dict, few_s, List.getElem?_cons_zero, List.getElem?_cons_succ, List.getElem?_nil, List.set_cons_zero, List.set_cons_succ, e_add, e_sub, e_lt, e_le, e_gt, e_ge, e_eqI, e_neI, e_eqS, e_neS, e_eqB, e_neB, e_isB, e_notB, e_lenL, e_lenT, e_in1, e_notIn1, e_max, e_min, e_intI, e_intB, Bool.not_true, Bool.not_false, decide_true, decide_false, Nat.reduceAdd, hc9, hne]
                exact ⟨_, rfl, _, _, _, _, _, _, _, rfl⟩)
          obtain ⟨e, rfl, a1, a2, a3, a4, a5, a6, a7, rfl⟩ := hP
          have t0 : un (fun _ => true) [.non] = some (.bl true) := un_at _ (by decide +kernel)
          have t1 : un (fun _ => true) [.int 5] = some (.bl true) := un_at _ (by decide +kernel)
          have t2 : un (fun _ => true) [.bl true] = some (.bl true) := un_at _ (by decide +kernel)
          have t3 : un (fun _ => true) [.str "look"] = some (.bl true) := un_at _ (by decide +kernel)
          have t4 : un (fun _ => true) [.lst []] = some (.bl true) := un_at _ (by decide +kernel)
          have t5 : un (fun _ => true) [.lst [.str "look"]] = some (.bl true) := un_at _ (by decide +kernel)
          have t6 : un (fun _ => true) [.dct []] = some (.bl true) := un_at _ (by decide +kernel)
          have t7 : un (fun _ => true) [.tup []] = some (.bl true) := un_at _ (by decide +kernel)
          have t8 : un (fun _ => true) [.tup [.tup []]] = some (.bl true) := un_at _ (by decide +kernel)
          have t9 : un (fun _ => true) [.tup [.non]] = some (.bl true) := un_at _ (by decide +kernel)
          have t10 : un (fun _ => true) [.tup [.lst [.str "look"]]] = some (.bl true) := un_at _ (by decide +kernel)
          have t11 : un (fun _ => true) [.tup [.int 5, .str "a"]] = some (.bl true) := un_at _ (by decide +kernel)
          simp -implicitDefEqProofs only [List.map, List.replicate, List.append, List.cons_append, List.nil_append, List.length, a_bnd, a_ret, a_nope, a_lft, a_rdV, a_getF, a_lookF, a_lookS, a_stillF, a_stillS, a_asRv, a_mop, a_seq, a_ifS, a_ifM, a_notM, a_asB1, a_andV, a_orV, a_notV, a_chain, a_consM, a_looks0, a_looks, a_stills0, a_stills, a_callM, a_callS, a_retM, a_setM, a_setO, a_drpM, a_appM, a_isOwL, a_lstM, a_tupM, a_negM, a_someM, a_slM, a_compM, a_forM, a_asS1, a_asL1, a_asT1, a_rng1, a_enum, a_repM, a_strM1, a_parM, a_iT, a_iF, a_iTr, a_iFr, if_true, if_false, Bool.false_eq_true, Bool.true_eq_false, not_true, not_false_iff, isiG_str, isiG_int, isiG_bool, isiG_tuple, isiG_list, isiG_dict, few_s, List.getElem?_cons_zero, List.getElem?_cons_succ, List.getElem?_nil, List.set_cons_zero, List.set_cons_succ, e_add, e_sub, e_lt, e_le, e_gt, e_ge, e_eqI, e_neI, e_eqS, e_neS, e_eqB, e_neB, e_isB, e_notB, e_lenL, e_lenT, e_in1, e_notIn1, e_max, e_min, e_intI, e_intB, Bool.not_true, Bool.not_false, decide_true, decide_false, Nat.reduceAdd, a_forC, a_forN, t0, t1, t2, t3, t4, t5, t6, t7, t8, t9, t10, t11]
          exact ⟨_, rfl⟩
        · simp only [h63, if_false] at hg
          cases hg
  case hne => exact specF_noex _

end

theorem all_mk {l : PySem.W.OpenLaw} {w : World} {K : PySem.W.Frag} {h : Heap} {mg : Str → Option Value} {fa : Addr} {f0 : Addr} {od0 an0 : Option Addr} {sl0 : Array (Option Value)} {oc0 kV0 dc0 pm0 cd0 ct0 : Value} {f1 : Addr} {od1 an1 : Option Addr} {sl1 : Array (Option Value)} {oc1 kV1 dc1 pm1 cd1 ct1 : Value} {f2 : Addr} {od2 an2 : Option Addr} {sl2 : Array (Option Value)} {oc2 kV2 dc2 pm2 cd2 ct2 : Value} {f3 : Addr} {od3 an3 : Option Addr} {sl3 : Array (Option Value)} {oc3 kV3 dc3 pm3 cd3 ct3 : Value} {f4 : Addr} {od4 an4 : Option Addr} {sl4 : Array (Option Value)} {oc4 kV4 dc4 pm4 cd4 ct4 : Value} {f5 : Addr} {od5 an5 : Option Addr} {sl5 : Array (Option Value)} {oc5 kV5 dc5 pm5 cd5 ct5 : Value} {f6 : Addr} {od6 an6 : Option Addr} {sl6 : Array (Option Value)} {oc6 kV6 dc6 pm6 cd6 ct6 : Value} {f7 : Addr} {od7 an7 : Option Addr} {sl7 : Array (Option Value)} {oc7 kV7 dc7 pm7 cd7 ct7 : Value} {f8 : Addr} {od8 an8 : Option Addr} {sl8 : Array (Option Value)} {oc8 kV8 dc8 pm8 cd8 ct8 : Value} {f9 : Addr} {od9 an9 : Option Addr} {sl9 : Array (Option Value)} {oc9 kV9 dc9 pm9 cd9 ct9 : Value} {f10 : Addr} {od10 an10 : Option Addr} {sl10 : Array (Option Value)} {oc10 kV10 dc10 pm10 cd10 ct10 : Value} {f11 : Addr} {od11 an11 : Option Addr} {sl11 : Array (Option Value)} {oc11 kV11 dc11 pm11 cd11 ct11 : Value} {f12 : Addr} {od12 an12 : Option Addr} {sl12 : Array (Option Value)} {oc12 kV12 dc12 pm12 cd12 ct12 : Value} {f13 : Addr} {od13 an13 : Option Addr} {sl13 : Array (Option Value)} {oc13 kV13 dc13 pm13 cd13 ct13 : Value} {f14 : Addr} {od14 an14 : Option Addr} {sl14 : Array (Option Value)} {oc14 kV14 dc14 pm14 cd14 ct14 : Value} {f15 : Addr} {od15 an15 : Option Addr} {sl15 : Array (Option Value)} {oc15 kV15 dc15 pm15 cd15 ct15 : Value} {f16 : Addr} {od16 an16 : Option Addr} {sl16 : Array (Option Value)} {oc16 kV16 dc16 pm16 cd16 ct16 : Value} {f17 : Addr} {od17 an17 : Option Addr} {sl17 : Array (Option Value)} {oc17 kV17 dc17 pm17 cd17 ct17 : Value} {f18 : Addr} {od18 an18 : Option Addr} {sl18 : Array (Option Value)} {oc18 kV18 dc18 pm18 cd18 ct18 : Value} {uLETTERS : Value} {uMOST_LETTERS : Value} {uMOST_OUT : Value} {uLOOK : Value} {uHOLD : Value} {uTRY : Value} {uLET : Value} {uENTER : Value} {uLEAVE : Value} {uTOUCH : Value} {uUSE : Value} {uLOCK : Value} {uUNLOCK : Value} {uSTART : Value} {uASK : Value} {uOUT : Value} {uMARK : Value} {uWAIT : Value} {uEMPTY : Value} {uDOWN : Value} {uBAR : Value} {uFORGET : Value} {uIDLE : Value} {tOPENING : Addr} {itOPENING : List Value} {nOPENING : Nat} {dOPENING : Option Addr} {sOPENING : Array (Option Value)} {tPLAIN : Addr} {itPLAIN : List Value} {nPLAIN : Nat} {dPLAIN : Option Addr} {sPLAIN : Array (Option Value)} {tALONE : Addr} {itALONE : List Value} {nALONE : Nat} {dALONE : Option Addr} {sALONE : Array (Option Value)} {tABOUT : Addr} {itABOUT : List Value} {nABOUT : Nat} {dABOUT : Option Addr} {sABOUT : Array (Option Value)} {tUSING : Addr} {itUSING : List Value} {nUSING : Nat} {dUSING : Option Addr} {sUSING : Array (Option Value)} {tPULLING : Addr} {itPULLING : List Value} {nPULLING : Nat} {dPULLING : Option Addr} {sPULLING : Array (Option Value)} (X : K.In h) (G : h.Ns mainGlobals mg) (hfa : mg "law" = some (.ref fa))
    (a0 : PySem.W.nsIn K mainGlobals "is_name" = some (some (.ref f0))) (l0 : K.lookup f0 = some ⟨oc0, od0, .func (PySem.W.fnOf "is_name" "is_name" (defArgs s_is_name) (defBody s_is_name) (defScope s_is_name) .none kV0 dc0 pm0 an0 cd0 ct0), sl0⟩) (c0 : PySem.W.codeIn K cd0 "is_name" = true) (k0 : PySem.W.keepIn K (.ref f0) = true)
    (a1 : PySem.W.nsIn K mainGlobals "_law_numbers" = some (some (.ref f1))) (l1 : K.lookup f1 = some ⟨oc1, od1, .func (PySem.W.fnOf "_law_numbers" "_law_numbers" (defArgs s__law_numbers) (defBody s__law_numbers) (defScope s__law_numbers) .none kV1 dc1 pm1 an1 cd1 ct1), sl1⟩) (c1 : PySem.W.codeIn K cd1 "_law_numbers" = true) (k1 : PySem.W.keepIn K (.ref f1) = true)
    (a2 : PySem.W.nsIn K mainGlobals "_law_pool" = some (some (.ref f2))) (l2 : K.lookup f2 = some ⟨oc2, od2, .func (PySem.W.fnOf "_law_pool" "_law_pool" (defArgs s__law_pool) (defBody s__law_pool) (defScope s__law_pool) .none kV2 dc2 pm2 an2 cd2 ct2), sl2⟩) (c2 : PySem.W.codeIn K cd2 "_law_pool" = true) (k2 : PySem.W.keepIn K (.ref f2) = true)
    (a3 : PySem.W.nsIn K mainGlobals "_law_draw" = some (some (.ref f3))) (l3 : K.lookup f3 = some ⟨oc3, od3, .func (PySem.W.fnOf "_law_draw" "_law_draw" (defArgs s__law_draw) (defBody s__law_draw) (defScope s__law_draw) .none kV3 dc3 pm3 an3 cd3 ct3), sl3⟩) (c3 : PySem.W.codeIn K cd3 "_law_draw" = true) (k3 : PySem.W.keepIn K (.ref f3) = true)
    (a4 : PySem.W.nsIn K mainGlobals "_law_pick" = some (some (.ref f4))) (l4 : K.lookup f4 = some ⟨oc4, od4, .func (PySem.W.fnOf "_law_pick" "_law_pick" (defArgs s__law_pick) (defBody s__law_pick) (defScope s__law_pick) .none kV4 dc4 pm4 an4 cd4 ct4), sl4⟩) (c4 : PySem.W.codeIn K cd4 "_law_pick" = true) (k4 : PySem.W.keepIn K (.ref f4) = true)
    (a5 : PySem.W.nsIn K mainGlobals "is_worded" = some (some (.ref f5))) (l5 : K.lookup f5 = some ⟨oc5, od5, .func (PySem.W.fnOf "is_worded" "is_worded" (defArgs s_is_worded) (defBody s_is_worded) (defScope s_is_worded) .none kV5 dc5 pm5 an5 cd5 ct5), sl5⟩) (c5 : PySem.W.codeIn K cd5 "is_worded" = true) (k5 : PySem.W.keepIn K (.ref f5) = true)
    (a6 : PySem.W.nsIn K mainGlobals "is_short" = some (some (.ref f6))) (l6 : K.lookup f6 = some ⟨oc6, od6, .func (PySem.W.fnOf "is_short" "is_short" (defArgs s_is_short) (defBody s_is_short) (defScope s_is_short) .none kV6 dc6 pm6 an6 cd6 ct6), sl6⟩) (c6 : PySem.W.codeIn K cd6 "is_short" = true) (k6 : PySem.W.keepIn K (.ref f6) = true)
    (a7 : PySem.W.nsIn K mainGlobals "is_asking" = some (some (.ref f7))) (l7 : K.lookup f7 = some ⟨oc7, od7, .func (PySem.W.fnOf "is_asking" "is_asking" (defArgs s_is_asking) (defBody s_is_asking) (defScope s_is_asking) .none kV7 dc7 pm7 an7 cd7 ct7), sl7⟩) (c7 : PySem.W.codeIn K cd7 "is_asking" = true) (k7 : PySem.W.keepIn K (.ref f7) = true)
    (a8 : PySem.W.nsIn K mainGlobals "is_item" = some (some (.ref f8))) (l8 : K.lookup f8 = some ⟨oc8, od8, .func (PySem.W.fnOf "is_item" "is_item" (defArgs s_is_item) (defBody s_is_item) (defScope s_is_item) .none kV8 dc8 pm8 an8 cd8 ct8), sl8⟩) (c8 : PySem.W.codeIn K cd8 "is_item" = true) (k8 : PySem.W.keepIn K (.ref f8) = true)
    (a9 : PySem.W.nsIn K mainGlobals "is_step" = some (some (.ref f9))) (l9 : K.lookup f9 = some ⟨oc9, od9, .func (PySem.W.fnOf "is_step" "is_step" (defArgs s_is_step) (defBody s_is_step) (defScope s_is_step) .none kV9 dc9 pm9 an9 cd9 ct9), sl9⟩) (c9 : PySem.W.codeIn K cd9 "is_step" = true) (k9 : PySem.W.keepIn K (.ref f9) = true)
    (a10 : PySem.W.nsIn K mainGlobals "is_use" = some (some (.ref f10))) (l10 : K.lookup f10 = some ⟨oc10, od10, .func (PySem.W.fnOf "is_use" "is_use" (defArgs s_is_use) (defBody s_is_use) (defScope s_is_use) .none kV10 dc10 pm10 an10 cd10 ct10), sl10⟩) (c10 : PySem.W.codeIn K cd10 "is_use" = true) (k10 : PySem.W.keepIn K (.ref f10) = true)
    (a11 : PySem.W.nsIn K mainGlobals "_law_is_name" = some (some (.ref f11))) (l11 : K.lookup f11 = some ⟨oc11, od11, .func (PySem.W.fnOf "_law_is_name" "_law_is_name" (defArgs s__law_is_name) (defBody s__law_is_name) (defScope s__law_is_name) .none kV11 dc11 pm11 an11 cd11 ct11), sl11⟩) (c11 : PySem.W.codeIn K cd11 "_law_is_name" = true) (k11 : PySem.W.keepIn K (.ref f11) = true)
    (a12 : PySem.W.nsIn K mainGlobals "_law_is_inner" = some (some (.ref f12))) (l12 : K.lookup f12 = some ⟨oc12, od12, .func (PySem.W.fnOf "_law_is_inner" "_law_is_inner" (defArgs s__law_is_inner) (defBody s__law_is_inner) (defScope s__law_is_inner) .none kV12 dc12 pm12 an12 cd12 ct12), sl12⟩) (c12 : PySem.W.codeIn K cd12 "_law_is_inner" = true) (k12 : PySem.W.keepIn K (.ref f12) = true)
    (a13 : PySem.W.nsIn K mainGlobals "_law_is_step" = some (some (.ref f13))) (l13 : K.lookup f13 = some ⟨oc13, od13, .func (PySem.W.fnOf "_law_is_step" "_law_is_step" (defArgs s__law_is_step) (defBody s__law_is_step) (defScope s__law_is_step) .none kV13 dc13 pm13 an13 cd13 ct13), sl13⟩) (c13 : PySem.W.codeIn K cd13 "_law_is_step" = true) (k13 : PySem.W.keepIn K (.ref f13) = true)
    (a14 : PySem.W.nsIn K mainGlobals "_law_is_item" = some (some (.ref f14))) (l14 : K.lookup f14 = some ⟨oc14, od14, .func (PySem.W.fnOf "_law_is_item" "_law_is_item" (defArgs s__law_is_item) (defBody s__law_is_item) (defScope s__law_is_item) .none kV14 dc14 pm14 an14 cd14 ct14), sl14⟩) (c14 : PySem.W.codeIn K cd14 "_law_is_item" = true) (k14 : PySem.W.keepIn K (.ref f14) = true)
    (a15 : PySem.W.nsIn K mainGlobals "_law_is_used" = some (some (.ref f15))) (l15 : K.lookup f15 = some ⟨oc15, od15, .func (PySem.W.fnOf "_law_is_used" "_law_is_used" (defArgs s__law_is_used) (defBody s__law_is_used) (defScope s__law_is_used) .none kV15 dc15 pm15 an15 cd15 ct15), sl15⟩) (c15 : PySem.W.codeIn K cd15 "_law_is_used" = true) (k15 : PySem.W.keepIn K (.ref f15) = true)
    (a16 : PySem.W.nsIn K mainGlobals "_law_right" = some (some (.ref f16))) (l16 : K.lookup f16 = some ⟨oc16, od16, .func (PySem.W.fnOf "_law_right" "_law_right" (defArgs s__law_right) (defBody s__law_right) (defScope s__law_right) .none kV16 dc16 pm16 an16 cd16 ct16), sl16⟩) (c16 : PySem.W.codeIn K cd16 "_law_right" = true) (k16 : PySem.W.keepIn K (.ref f16) = true)
    (a17 : PySem.W.nsIn K mainGlobals "_law_bent" = some (some (.ref f17))) (l17 : K.lookup f17 = some ⟨oc17, od17, .func (PySem.W.fnOf "_law_bent" "_law_bent" (defArgs s__law_bent) (defBody s__law_bent) (defScope s__law_bent) .none kV17 dc17 pm17 an17 cd17 ct17), sl17⟩) (c17 : PySem.W.codeIn K cd17 "_law_bent" = true) (k17 : PySem.W.keepIn K (.ref f17) = true)
    (a18 : PySem.W.nsIn K mainGlobals "law" = some (some (.ref f18))) (l18 : K.lookup f18 = some ⟨oc18, od18, .func (PySem.W.fnOf "law" "law" (defArgs s_law) (defBody s_law) (defScope s_law) .none kV18 dc18 pm18 an18 cd18 ct18), sl18⟩) (c18 : PySem.W.codeIn K cd18 "law" = true) (k18 : PySem.W.keepIn K (.ref f18) = true)
    (z_len : PySem.W.nsIn K mainGlobals "len" = some none)
    (z_isinstance : PySem.W.nsIn K mainGlobals "isinstance" = some none)
    (z_all : PySem.W.nsIn K mainGlobals "all" = some none)
    (z_max : PySem.W.nsIn K mainGlobals "max" = some none)
    (z_str : PySem.W.nsIn K mainGlobals "str" = some none)
    (z_int : PySem.W.nsIn K mainGlobals "int" = some none)
    (z_bool : PySem.W.nsIn K mainGlobals "bool" = some none)
    (z_range : PySem.W.nsIn K mainGlobals "range" = some none)
    (z_enumerate : PySem.W.nsIn K mainGlobals "enumerate" = some none)
    (z_tuple : PySem.W.nsIn K mainGlobals "tuple" = some none)
    (z_list : PySem.W.nsIn K mainGlobals "list" = some none)
    (gLETTERS : PySem.W.nsIn K mainGlobals "LETTERS" = some (some uLETTERS)) (rLETTERS : RelV (.str "abcdefghijklmnopqrstuvwxyz") uLETTERS)
    (gMOST_LETTERS : PySem.W.nsIn K mainGlobals "MOST_LETTERS" = some (some uMOST_LETTERS)) (rMOST_LETTERS : RelV (.int 8) uMOST_LETTERS)
    (gMOST_OUT : PySem.W.nsIn K mainGlobals "MOST_OUT" = some (some uMOST_OUT)) (rMOST_OUT : RelV (.int 4) uMOST_OUT)
    (gLOOK : PySem.W.nsIn K mainGlobals "LOOK" = some (some uLOOK)) (rLOOK : RelV (.str "look") uLOOK)
    (gHOLD : PySem.W.nsIn K mainGlobals "HOLD" = some (some uHOLD)) (rHOLD : RelV (.str "hold") uHOLD)
    (gTRY : PySem.W.nsIn K mainGlobals "TRY" = some (some uTRY)) (rTRY : RelV (.str "try") uTRY)
    (gLET : PySem.W.nsIn K mainGlobals "LET" = some (some uLET)) (rLET : RelV (.str "let") uLET)
    (gENTER : PySem.W.nsIn K mainGlobals "ENTER" = some (some uENTER)) (rENTER : RelV (.str "enter") uENTER)
    (gLEAVE : PySem.W.nsIn K mainGlobals "LEAVE" = some (some uLEAVE)) (rLEAVE : RelV (.str "leave") uLEAVE)
    (gTOUCH : PySem.W.nsIn K mainGlobals "TOUCH" = some (some uTOUCH)) (rTOUCH : RelV (.str "touch") uTOUCH)
    (gUSE : PySem.W.nsIn K mainGlobals "USE" = some (some uUSE)) (rUSE : RelV (.str "use") uUSE)
    (gLOCK : PySem.W.nsIn K mainGlobals "LOCK" = some (some uLOCK)) (rLOCK : RelV (.str "lock") uLOCK)
    (gUNLOCK : PySem.W.nsIn K mainGlobals "UNLOCK" = some (some uUNLOCK)) (rUNLOCK : RelV (.str "unlock") uUNLOCK)
    (gSTART : PySem.W.nsIn K mainGlobals "START" = some (some uSTART)) (rSTART : RelV (.str "start") uSTART)
    (gASK : PySem.W.nsIn K mainGlobals "ASK" = some (some uASK)) (rASK : RelV (.str "ask") uASK)
    (gOUT : PySem.W.nsIn K mainGlobals "OUT" = some (some uOUT)) (rOUT : RelV (.str "out") uOUT)
    (gMARK : PySem.W.nsIn K mainGlobals "MARK" = some (some uMARK)) (rMARK : RelV (.str "mark") uMARK)
    (gWAIT : PySem.W.nsIn K mainGlobals "WAIT" = some (some uWAIT)) (rWAIT : RelV (.str "wait") uWAIT)
    (gEMPTY : PySem.W.nsIn K mainGlobals "EMPTY" = some (some uEMPTY)) (rEMPTY : RelV (.str "empty") uEMPTY)
    (gDOWN : PySem.W.nsIn K mainGlobals "DOWN" = some (some uDOWN)) (rDOWN : RelV (.str "down") uDOWN)
    (gBAR : PySem.W.nsIn K mainGlobals "BAR" = some (some uBAR)) (rBAR : RelV (.str "bar") uBAR)
    (gFORGET : PySem.W.nsIn K mainGlobals "FORGET" = some (some uFORGET)) (rFORGET : RelV (.str "forget") uFORGET)
    (gIDLE : PySem.W.nsIn K mainGlobals "IDLE" = some (some uIDLE)) (rIDLE : RelV (.str "idle") uIDLE)
    (gOPENING : PySem.W.nsIn K mainGlobals "OPENING" = some (some (.ref tOPENING))) (lOPENING : K.lookup tOPENING = some ⟨.type "tuple", dOPENING, .seq itOPENING.toArray nOPENING, sOPENING⟩) (yOPENING : itOPENING.length ≤ sizeLine) (vOPENING : Vals [V.str "look", V.str "hold", V.str "try"] itOPENING)
    (gPLAIN : PySem.W.nsIn K mainGlobals "PLAIN" = some (some (.ref tPLAIN))) (lPLAIN : K.lookup tPLAIN = some ⟨.type "tuple", dPLAIN, .seq itPLAIN.toArray nPLAIN, sPLAIN⟩) (yPLAIN : itPLAIN.length ≤ sizeLine) (vPLAIN : Vals [V.str "let", V.str "enter", V.str "leave", V.str "touch", V.str "use", V.str "lock", V.str "unlock"] itPLAIN)
    (gALONE : PySem.W.nsIn K mainGlobals "ALONE" = some (some (.ref tALONE))) (lALONE : K.lookup tALONE = some ⟨.type "tuple", dALONE, .seq itALONE.toArray nALONE, sALONE⟩) (yALONE : itALONE.length ≤ sizeLine) (vALONE : Vals [V.str "out", V.str "wait", V.str "empty", V.str "down", V.str "let", V.str "lock", V.str "unlock"] itALONE)
    (gABOUT : PySem.W.nsIn K mainGlobals "ABOUT" = some (some (.ref tABOUT))) (lABOUT : K.lookup tABOUT = some ⟨.type "tuple", dABOUT, .seq itABOUT.toArray nABOUT, sABOUT⟩) (yABOUT : itABOUT.length ≤ sizeLine) (vABOUT : Vals [V.str "bar", V.str "forget", V.str "idle"] itABOUT)
    (gUSING : PySem.W.nsIn K mainGlobals "USING" = some (some (.ref tUSING))) (lUSING : K.lookup tUSING = some ⟨.type "tuple", dUSING, .seq itUSING.toArray nUSING, sUSING⟩) (yUSING : itUSING.length ≤ sizeLine) (vUSING : Vals [V.str "hold", V.str "enter", V.str "leave", V.str "ask", V.str "use", V.str "start"] itUSING)
    (gPULLING : PySem.W.nsIn K mainGlobals "PULLING" = some (some (.ref tPULLING))) (lPULLING : K.lookup tPULLING = some ⟨.type "tuple", dPULLING, .seq itPULLING.toArray nPULLING, sPULLING⟩) (yPULLING : itPULLING.length ≤ sizeLine) (vPULLING : Vals [V.str "mark", V.str "wait", V.str "empty", V.str "bar", V.str "forget", V.str "idle", V.str "let"] itPULLING) :
    ∃ fd : FuncData, (∀ (s : Shared) (v : Value), BindsTo s fd ⟨[v], []⟩ [("_law_script", v)]) ∧ ∀ base : Heap, K.In base → base.Ns mainGlobals mg → FnOk l.prog w K mg base CX0 6 fa fd ["_law_script"] (spD K 1 G_law) := by
  have e := hfa.symm.trans (PySem.W.mg_of X G a18)
  cases e
  have T : Txt K mg := ⟨PySem.W.mg_none_of X G z_len, PySem.W.mg_none_of X G z_isinstance, PySem.W.mg_none_of X G z_all, PySem.W.mg_none_of X G z_max, PySem.W.mg_none_of X G z_str, PySem.W.mg_none_of X G z_int, PySem.W.mg_none_of X G z_bool, PySem.W.mg_none_of X G z_range, PySem.W.mg_none_of X G z_enumerate, PySem.W.mg_none_of X G z_tuple, PySem.W.mg_none_of X G z_list, ⟨⟨_, PySem.W.mg_of X G gLETTERS, rLETTERS⟩, fun F => .str _⟩, ⟨⟨_, PySem.W.mg_of X G gMOST_LETTERS, rMOST_LETTERS⟩, fun F => .int _⟩, ⟨⟨_, PySem.W.mg_of X G gMOST_OUT, rMOST_OUT⟩, fun F => .int _⟩, ⟨⟨_, PySem.W.mg_of X G gLOOK, rLOOK⟩, fun F => .str _⟩, ⟨⟨_, PySem.W.mg_of X G gHOLD, rHOLD⟩, fun F => .str _⟩, ⟨⟨_, PySem.W.mg_of X G gTRY, rTRY⟩, fun F => .str _⟩, ⟨⟨_, PySem.W.mg_of X G gLET, rLET⟩, fun F => .str _⟩, ⟨⟨_, PySem.W.mg_of X G gENTER, rENTER⟩, fun F => .str _⟩, ⟨⟨_, PySem.W.mg_of X G gLEAVE, rLEAVE⟩, fun F => .str _⟩, ⟨⟨_, PySem.W.mg_of X G gTOUCH, rTOUCH⟩, fun F => .str _⟩, ⟨⟨_, PySem.W.mg_of X G gUSE, rUSE⟩, fun F => .str _⟩, ⟨⟨_, PySem.W.mg_of X G gLOCK, rLOCK⟩, fun F => .str _⟩, ⟨⟨_, PySem.W.mg_of X G gUNLOCK, rUNLOCK⟩, fun F => .str _⟩, ⟨⟨_, PySem.W.mg_of X G gSTART, rSTART⟩, fun F => .str _⟩, ⟨⟨_, PySem.W.mg_of X G gASK, rASK⟩, fun F => .str _⟩, ⟨⟨_, PySem.W.mg_of X G gOUT, rOUT⟩, fun F => .str _⟩, ⟨⟨_, PySem.W.mg_of X G gMARK, rMARK⟩, fun F => .str _⟩, ⟨⟨_, PySem.W.mg_of X G gWAIT, rWAIT⟩, fun F => .str _⟩, ⟨⟨_, PySem.W.mg_of X G gEMPTY, rEMPTY⟩, fun F => .str _⟩, ⟨⟨_, PySem.W.mg_of X G gDOWN, rDOWN⟩, fun F => .str _⟩, ⟨⟨_, PySem.W.mg_of X G gBAR, rBAR⟩, fun F => .str _⟩, ⟨⟨_, PySem.W.mg_of X G gFORGET, rFORGET⟩, fun F => .str _⟩, ⟨⟨_, PySem.W.mg_of X G gIDLE, rIDLE⟩, fun F => .str _⟩, ⟨tOPENING, globT (PySem.W.mg_of X G gOPENING) lOPENING rfl rfl (by rw [List.size_toArray]; exact yOPENING) (by rw [List.toList_toArray]; exact vOPENING) fun F => .cons (.str _) (.cons (.str _) (.cons (.str _) (.nil)))⟩, ⟨tPLAIN, globT (PySem.W.mg_of X G gPLAIN) lPLAIN rfl rfl (by rw [List.size_toArray]; exact yPLAIN) (by rw [List.toList_toArray]; exact vPLAIN) fun F => .cons (.str _) (.cons (.str _) (.cons (.str _) (.cons (.str _) (.cons (.str _) (.cons (.str _) (.cons (.str _) (.nil)))))))⟩, ⟨tALONE, globT (PySem.W.mg_of X G gALONE) lALONE rfl rfl (by rw [List.size_toArray]; exact yALONE) (by rw [List.toList_toArray]; exact vALONE) fun F => .cons (.str _) (.cons (.str _) (.cons (.str _) (.cons (.str _) (.cons (.str _) (.cons (.str _) (.cons (.str _) (.nil)))))))⟩, ⟨tABOUT, globT (PySem.W.mg_of X G gABOUT) lABOUT rfl rfl (by rw [List.size_toArray]; exact yABOUT) (by rw [List.toList_toArray]; exact vABOUT) fun F => .cons (.str _) (.cons (.str _) (.cons (.str _) (.nil)))⟩, ⟨tUSING, globT (PySem.W.mg_of X G gUSING) lUSING rfl rfl (by rw [List.size_toArray]; exact yUSING) (by rw [List.toList_toArray]; exact vUSING) fun F => .cons (.str _) (.cons (.str _) (.cons (.str _) (.cons (.str _) (.cons (.str _) (.cons (.str _) (.nil))))))⟩, ⟨tPULLING, globT (PySem.W.mg_of X G gPULLING) lPULLING rfl rfl (by rw [List.size_toArray]; exact yPULLING) (by rw [List.toList_toArray]; exact vPULLING) fun F => .cons (.str _) (.cons (.str _) (.cons (.str _) (.cons (.str _) (.cons (.str _) (.cons (.str _) (.cons (.str _) (.nil)))))))⟩⟩
  have F0 := fun_mk (st := s_is_name) l0 c0 k0
  have F1 := fun_mk (st := s__law_numbers) l1 c1 k1
  have F2 := fun_mk (st := s__law_pool) l2 c2 k2
  have F3 := fun_mk (st := s__law_draw) l3 c3 k3
  have F4 := fun_mk (st := s__law_pick) l4 c4 k4
  have F5 := fun_mk (st := s_is_worded) l5 c5 k5
  have F6 := fun_mk (st := s_is_short) l6 c6 k6
  have F7 := fun_mk (st := s_is_asking) l7 c7 k7
  have F8 := fun_mk (st := s_is_item) l8 c8 k8
  have F9 := fun_mk (st := s_is_step) l9 c9 k9
  have F10 := fun_mk (st := s_is_use) l10 c10 k10
  have F11 := fun_mk (st := s__law_is_name) l11 c11 k11
  have F12 := fun_mk (st := s__law_is_inner) l12 c12 k12
  have F13 := fun_mk (st := s__law_is_step) l13 c13 k13
  have F14 := fun_mk (st := s__law_is_item) l14 c14 k14
  have F15 := fun_mk (st := s__law_is_used) l15 c15 k15
  have F16 := fun_mk (st := s__law_right) l16 c16 k16
  have F17 := fun_mk (st := s__law_bent) l17 c17 k17
  have F18 := fun_mk (st := s_law) l18 c18 k18
  refine ⟨PySem.W.fnOf "law" "law" (defArgs s_law) (defBody s_law) (defScope s_law) .none kV18 dc18 pm18 an18 cd18 ct18, fun s v => .of_eq rfl, fun base _ _ => ?_⟩
  have d_is_name : Dfn l.prog w K mg base CX0 1 "is_name" 1 G_is_name := ⟨f0, _, ["value"], ok_is_name F0 T , PySem.W.mg_of X G a0, k0, F0.binds (ps := ["value"]) fun _ _ _ _ _ _ us hl => match us, hl with | [_], _ => rfl⟩
  have d__law_numbers : Dfn l.prog w K mg base CX0 1 "_law_numbers" 3 G__law_numbers := ⟨f1, _, ["_law_cell", "_law_salt", "_law_sizes"], ok__law_numbers F1 T , PySem.W.mg_of X G a1, k1, F1.binds (ps := ["_law_cell", "_law_salt", "_law_sizes"]) fun _ _ _ _ _ _ us hl => match us, hl with | [_, _, _], _ => rfl⟩
  have d__law_pool : DfnN l.prog w K mg base CX0 2 "_law_pool" 3 G__law_pool := ⟨f2, _, ["_law_cell", "_law_salt", "_law_many"], ok__law_pool F2 T d__law_numbers, PySem.W.mg_of X G a2, k2, F2.binds (ps := ["_law_cell", "_law_salt", "_law_many"]) fun _ _ _ _ _ _ us hl => match us, hl with | [_, _, _], _ => rfl⟩
  have d__law_draw : Dfn l.prog w K mg base CX0 1 "_law_draw" 2 G__law_draw := ⟨f3, _, ["_law_pool_here", "_law_many"], ok__law_draw F3 T , PySem.W.mg_of X G a3, k3, F3.binds (ps := ["_law_pool_here", "_law_many"]) fun _ _ _ _ _ _ us hl => match us, hl with | [_, _], _ => rfl⟩
  have d__law_pick : Dfn l.prog w K mg base CX0 2 "_law_pick" 2 G__law_pick := ⟨f4, _, ["_law_pool_here", "_law_some"], ok__law_pick F4 T d__law_draw, PySem.W.mg_of X G a4, k4, F4.binds (ps := ["_law_pool_here", "_law_some"]) fun _ _ _ _ _ _ us hl => match us, hl with | [_, _], _ => rfl⟩
  have d_is_worded : Dfn l.prog w K mg base CX0 1 "is_worded" 2 G_is_worded := ⟨f5, _, ["value", "size"], ok_is_worded F5 T , PySem.W.mg_of X G a5, k5, F5.binds (ps := ["value", "size"]) fun _ _ _ _ _ _ us hl => match us, hl with | [_, _], _ => rfl⟩
  have d_is_short : Dfn l.prog w K mg base CX0 2 "is_short" 1 G_is_short := ⟨f6, _, ["value"], ok_is_short F6 T d_is_name d_is_worded, PySem.W.mg_of X G a6, k6, F6.binds (ps := ["value"]) fun _ _ _ _ _ _ us hl => match us, hl with | [_], _ => rfl⟩
  have d_is_asking : Dfn l.prog w K mg base CX0 2 "is_asking" 1 G_is_asking := ⟨f7, _, ["value"], ok_is_asking F7 T d_is_name d_is_worded, PySem.W.mg_of X G a7, k7, F7.binds (ps := ["value"]) fun _ _ _ _ _ _ us hl => match us, hl with | [_], _ => rfl⟩
  have d_is_item : Dfn l.prog w K mg base CX0 3 "is_item" 1 G_is_item := ⟨f8, _, ["value"], ok_is_item F8 T d_is_worded d_is_short d_is_asking, PySem.W.mg_of X G a8, k8, F8.binds (ps := ["value"]) fun _ _ _ _ _ _ us hl => match us, hl with | [_], _ => rfl⟩
  have d_is_step : Dfn l.prog w K mg base CX0 2 "is_step" 1 G_is_step := ⟨f9, _, ["value"], ok_is_step F9 T d_is_name d_is_worded, PySem.W.mg_of X G a9, k9, F9.binds (ps := ["value"]) fun _ _ _ _ _ _ us hl => match us, hl with | [_], _ => rfl⟩
  have d_is_use : Dfn l.prog w K mg base CX0 4 "is_use" 1 G_is_use := ⟨f10, _, ["value"], ok_is_use F10 T d_is_item d_is_step, PySem.W.mg_of X G a10, k10, F10.binds (ps := ["value"]) fun _ _ _ _ _ _ us hl => match us, hl with | [_], _ => rfl⟩
  have d__law_is_name : Dfn l.prog w K mg base CX0 1 "_law_is_name" 1 G__law_is_name := ⟨f11, _, ["_law_value"], ok__law_is_name F11 T , PySem.W.mg_of X G a11, k11, F11.binds (ps := ["_law_value"]) fun _ _ _ _ _ _ us hl => match us, hl with | [_], _ => rfl⟩
  have d__law_is_inner : Dfn l.prog w K mg base CX0 2 "_law_is_inner" 1 G__law_is_inner := ⟨f12, _, ["_law_value"], ok__law_is_inner F12 T d__law_is_name, PySem.W.mg_of X G a12, k12, F12.binds (ps := ["_law_value"]) fun _ _ _ _ _ _ us hl => match us, hl with | [_], _ => rfl⟩
  have d__law_is_step : Dfn l.prog w K mg base CX0 2 "_law_is_step" 1 G__law_is_step := ⟨f13, _, ["_law_value"], ok__law_is_step F13 T d__law_is_name, PySem.W.mg_of X G a13, k13, F13.binds (ps := ["_law_value"]) fun _ _ _ _ _ _ us hl => match us, hl with | [_], _ => rfl⟩
  have d__law_is_item : Dfn l.prog w K mg base CX0 3 "_law_is_item" 1 G__law_is_item := ⟨f14, _, ["_law_value"], ok__law_is_item F14 T d__law_is_name d__law_is_inner, PySem.W.mg_of X G a14, k14, F14.binds (ps := ["_law_value"]) fun _ _ _ _ _ _ us hl => match us, hl with | [_], _ => rfl⟩
  have d__law_is_used : Dfn l.prog w K mg base CX0 4 "_law_is_used" 1 G__law_is_used := ⟨f15, _, ["_law_value"], ok__law_is_used F15 T d__law_is_step d__law_is_item, PySem.W.mg_of X G a15, k15, F15.binds (ps := ["_law_value"]) fun _ _ _ _ _ _ us hl => match us, hl with | [_], _ => rfl⟩
  have d__law_right : Dfn l.prog w K mg base CX0 5 "_law_right" 1 G__law_right := ⟨f16, _, ["_law_value"], ok__law_right F16 T d_is_item d_is_step d_is_use d__law_is_step d__law_is_used d__law_is_item, PySem.W.mg_of X G a16, k16, F16.binds (ps := ["_law_value"]) fun _ _ _ _ _ _ us hl => match us, hl with | [_], _ => rfl⟩
  have d__law_bent : Dfn l.prog w K mg base CX0 2 "_law_bent" 2 G__law_bent := ⟨f17, _, ["_law_pool_here", "_law_value"], ok__law_bent F17 T d__law_draw, PySem.W.mg_of X G a17, k17, F17.binds (ps := ["_law_pool_here", "_law_value"]) fun _ _ _ _ _ _ us hl => match us, hl with | [_, _], _ => rfl⟩
  exact ok_law F18 T d__law_pool d__law_draw d__law_pick d__law_right d__law_bent

end K03

open PySem PySem.W PyProof.Rows
set_option maxHeartbeats 0 in
theorem PySem.Challenge.cw_pulledout_k03_items_and_steps_holds : PySem.Challenge.rw_pulledout_k03_items_and_steps.Holds := by
  w_on; o_law; k_head; (case hw => w_witness2)
  k_fill
  refine DL.walkD (l := PySem.Challenge.rw_pulledout_k03_items_and_steps) (n := 63) (k := 6) (x := "_law_script") (CX := L2.CX0) (G := K03.G_law) rfl (by decide) rfl ⟨rfl, by decide, by decide⟩ (fun w h Y => PySem.W.kIn_of Y) ?L (fun ns hl => ⟨_, DL.specF_at (K03.law_at ns hl)⟩) (fun _ _ _ _ h => h) ?F
  case L => exact fun w => rfl
  case F =>
    intro w mg fa h KX G hmg
    refine' K03.all_mk KX G hmg ?a0 ?l0 ?c0 ?k0 ?a1 ?l1 ?c1 ?k1 ?a2 ?l2 ?c2 ?k2 ?a3 ?l3 ?c3 ?k3 ?a4 ?l4 ?c4 ?k4 ?a5 ?l5 ?c5 ?k5 ?a6 ?l6 ?c6 ?k6 ?a7 ?l7 ?c7 ?k7 ?a8 ?l8 ?c8 ?k8 ?a9 ?l9 ?c9 ?k9 ?a10 ?l10 ?c10 ?k10 ?a11 ?l11 ?c11 ?k11 ?a12 ?l12 ?c12 ?k12 ?a13 ?l13 ?c13 ?k13 ?a14 ?l14 ?c14 ?k14 ?a15 ?l15 ?c15 ?k15 ?a16 ?l16 ?c16 ?k16 ?a17 ?l17 ?c17 ?k17 ?a18 ?l18 ?c18 ?k18 ?z_len ?z_isinstance ?z_all ?z_max ?z_str ?z_int ?z_bool ?z_range ?z_enumerate ?z_tuple ?z_list ?gLETTERS ?rLETTERS ?gMOST_LETTERS ?rMOST_LETTERS ?gMOST_OUT ?rMOST_OUT ?gLOOK ?rLOOK ?gHOLD ?rHOLD ?gTRY ?rTRY ?gLET ?rLET ?gENTER ?rENTER ?gLEAVE ?rLEAVE ?gTOUCH ?rTOUCH ?gUSE ?rUSE ?gLOCK ?rLOCK ?gUNLOCK ?rUNLOCK ?gSTART ?rSTART ?gASK ?rASK ?gOUT ?rOUT ?gMARK ?rMARK ?gWAIT ?rWAIT ?gEMPTY ?rEMPTY ?gDOWN ?rDOWN ?gBAR ?rBAR ?gFORGET ?rFORGET ?gIDLE ?rIDLE ?gOPENING ?lOPENING ?yOPENING ?vOPENING ?gPLAIN ?lPLAIN ?yPLAIN ?vPLAIN ?gALONE ?lALONE ?yALONE ?vALONE ?gABOUT ?lABOUT ?yABOUT ?vABOUT ?gUSING ?lUSING ?yUSING ?vUSING ?gPULLING ?lPULLING ?yPULLING ?vPULLING
    (case a0 => k_is)
    (case l0 => k_is)
    (case c0 => k_is)
    (case k0 => k_is)
    (case a1 => k_is)
    (case l1 => k_is)
    (case c1 => k_is)
    (case k1 => k_is)
    (case a2 => k_is)
    (case l2 => k_is)
    (case c2 => k_is)
    (case k2 => k_is)
    (case a3 => k_is)
    (case l3 => k_is)
    (case c3 => k_is)
    (case k3 => k_is)
    (case a4 => k_is)
    (case l4 => k_is)
    (case c4 => k_is)
    (case k4 => k_is)
    (case a5 => k_is)
    (case l5 => k_is)
    (case c5 => k_is)
    (case k5 => k_is)
    (case a6 => k_is)
    (case l6 => k_is)
    (case c6 => k_is)
    (case k6 => k_is)
    (case a7 => k_is)
    (case l7 => k_is)
    (case c7 => k_is)
    (case k7 => k_is)
    (case a8 => k_is)
    (case l8 => k_is)
    (case c8 => k_is)
    (case k8 => k_is)
    (case a9 => k_is)
    (case l9 => k_is)
    (case c9 => k_is)
    (case k9 => k_is)
    (case a10 => k_is)
    (case l10 => k_is)
    (case c10 => k_is)
    (case k10 => k_is)
    (case a11 => k_is)
    (case l11 => k_is)
    (case c11 => k_is)
    (case k11 => k_is)
    (case a12 => k_is)
    (case l12 => k_is)
    (case c12 => k_is)
    (case k12 => k_is)
    (case a13 => k_is)
    (case l13 => k_is)
    (case c13 => k_is)
    (case k13 => k_is)
    (case a14 => k_is)
    (case l14 => k_is)
    (case c14 => k_is)
    (case k14 => k_is)
    (case a15 => k_is)
    (case l15 => k_is)
    (case c15 => k_is)
    (case k15 => k_is)
    (case a16 => k_is)
    (case l16 => k_is)
    (case c16 => k_is)
    (case k16 => k_is)
    (case a17 => k_is)
    (case l17 => k_is)
    (case c17 => k_is)
    (case k17 => k_is)
    (case a18 => k_is)
    (case l18 => k_is)
    (case c18 => k_is)
    (case k18 => k_is)
    (case z_len => k_is)
    (case z_isinstance => k_is)
    (case z_all => k_is)
    (case z_max => k_is)
    (case z_str => k_is)
    (case z_int => k_is)
    (case z_bool => k_is)
    (case z_range => k_is)
    (case z_enumerate => k_is)
    (case z_tuple => k_is)
    (case z_list => k_is)
    (case gLETTERS => k_is)
    (case rLETTERS => exact ⟨_, rfl⟩)
    (case gMOST_LETTERS => k_is)
    (case rMOST_LETTERS => exact ⟨_, rfl⟩)
    (case gMOST_OUT => k_is)
    (case rMOST_OUT => exact ⟨_, rfl⟩)
    (case gLOOK => k_is)
    (case rLOOK => exact ⟨_, rfl⟩)
    (case gHOLD => k_is)
    (case rHOLD => exact ⟨_, rfl⟩)
    (case gTRY => k_is)
    (case rTRY => exact ⟨_, rfl⟩)
    (case gLET => k_is)
    (case rLET => exact ⟨_, rfl⟩)
    (case gENTER => k_is)
    (case rENTER => exact ⟨_, rfl⟩)
    (case gLEAVE => k_is)
    (case rLEAVE => exact ⟨_, rfl⟩)
    (case gTOUCH => k_is)
    (case rTOUCH => exact ⟨_, rfl⟩)
    (case gUSE => k_is)
    (case rUSE => exact ⟨_, rfl⟩)
    (case gLOCK => k_is)
    (case rLOCK => exact ⟨_, rfl⟩)
    (case gUNLOCK => k_is)
    (case rUNLOCK => exact ⟨_, rfl⟩)
    (case gSTART => k_is)
    (case rSTART => exact ⟨_, rfl⟩)
    (case gASK => k_is)
    (case rASK => exact ⟨_, rfl⟩)
    (case gOUT => k_is)
    (case rOUT => exact ⟨_, rfl⟩)
    (case gMARK => k_is)
    (case rMARK => exact ⟨_, rfl⟩)
    (case gWAIT => k_is)
    (case rWAIT => exact ⟨_, rfl⟩)
    (case gEMPTY => k_is)
    (case rEMPTY => exact ⟨_, rfl⟩)
    (case gDOWN => k_is)
    (case rDOWN => exact ⟨_, rfl⟩)
    (case gBAR => k_is)
    (case rBAR => exact ⟨_, rfl⟩)
    (case gFORGET => k_is)
    (case rFORGET => exact ⟨_, rfl⟩)
    (case gIDLE => k_is)
    (case rIDLE => exact ⟨_, rfl⟩)
    (case gOPENING => k_is)
    (case lOPENING => k_is)
    (case yOPENING => exact Nat.le_of_ble_eq_true rfl)
    (case vOPENING => repeat (first | exact DL.vals_nil | refine DL.vals_str ?_))
    (case gPLAIN => k_is)
    (case lPLAIN => k_is)
    (case yPLAIN => exact Nat.le_of_ble_eq_true rfl)
    (case vPLAIN => repeat (first | exact DL.vals_nil | refine DL.vals_str ?_))
    (case gALONE => k_is)
    (case lALONE => k_is)
    (case yALONE => exact Nat.le_of_ble_eq_true rfl)
    (case vALONE => repeat (first | exact DL.vals_nil | refine DL.vals_str ?_))
    (case gABOUT => k_is)
    (case lABOUT => k_is)
    (case yABOUT => exact Nat.le_of_ble_eq_true rfl)
    (case vABOUT => repeat (first | exact DL.vals_nil | refine DL.vals_str ?_))
    (case gUSING => k_is)
    (case lUSING => k_is)
    (case yUSING => exact Nat.le_of_ble_eq_true rfl)
    (case vUSING => repeat (first | exact DL.vals_nil | refine DL.vals_str ?_))
    (case gPULLING => k_is)
    (case lPULLING => k_is)
    (case yPULLING => exact Nat.le_of_ble_eq_true rfl)
    (case vPULLING => repeat (first | exact DL.vals_nil | refine DL.vals_str ?_))
