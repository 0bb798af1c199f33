import PyProof.Rows.All
import Wide.All
import OpenK.AllK
import Wide.FinOn
import HandS.ForMost
import HandS.TupAny
import HandS.Style
import HandS.NoneIn
import HandS.IsInst
import HandS.Zip
import PyProof.ReprRoads
import HandS.RaiseMore
import HandS.TupMul
import HandS.Wide
import HandS.ExcInit
import HandS.ExcField
import HandS.ExcOwn
import HandS.CallSlots
import HandS.WordsExc
import HandS.Defaults
import HandS.TryMany
import HandS.ExcIs
import PySem.Challenge.RW_lentvoices_k23_letters_made_and_refused
set_option Elab.async false
set_option linter.all false
set_option maxRecDepth 100000
set_option maxHeartbeats 4000000
/-! DL1: data with an abstract heap: D, Rep, Grow, the pen, what an expression gives (Ev), what a statement does (Wp). -/
namespace DL
open PySem L2

/-! ### data -/
inductive D where
  | non | bl (b : Bool) | int (i : Int) | str (s : Str)
  | lst (ds : List D) | tup (ds : List D)
  | dct (ks : List Key) (ds : List D)
  | obj (C : Addr) (ns : List Str) (ds : List D)
  | exc (a dx : Addr) (ns : List Str) (ds : List D)

mutual
inductive Rep (K : PySem.W.Frag) (H : Hp) : V → D → Prop
  | non : Rep K H .non .non
  | bl (b : Bool) : Rep K H (.bl b) (.bl b)
  | int (i : Int) : Rep K H (.int i) (.int i)
  | str (x : Str) : Rep K H (.str x) (.str x)
  | lst {a : Addr} {xs : List V} {ds : List D} : H a = some (.lst xs) → Reps K H xs ds → Rep K H (.ref a) (.lst ds)
  | tup {a : Addr} {xs : List V} {ds : List D} : SqT K H a xs → Reps K H xs ds → Rep K H (.ref a) (.tup ds)
  | dct {a : Addr} {ks : List Key} {xs : List V} {ds : List D} : H a = some (.dK (ks.zip xs)) → ks.length = xs.length → Reps K H xs ds → Rep K H (.ref a) (.dct ks ds)
  | obj {a C dx : Addr} {ns : List Str} {xs : List V} {ds : List D} : H a = some (.ins C dx (ns.zip xs)) → ns.length = xs.length → Reps K H xs ds → Rep K H (.ref a) (.obj C ns ds)
  | exc {a dx : Addr} {ns : List Str} {xs : List V} {ds : List D} : H dx = some (.xd (ns.zip xs)) → ns.length = xs.length → Reps K H xs ds → Rep K H (.ref a) (.exc a dx ns ds)
inductive Reps (K : PySem.W.Frag) (H : Hp) : List V → List D → Prop
  | nil : Reps K H [] []
  | cons {v : V} {vs : List V} {d : D} {ds : List D} : Rep K H v d → Reps K H vs ds → Reps K H (v :: vs) (d :: ds)
end

theorem same_sqt {K : PySem.W.Frag} {H H' : Hp} {a : Addr} {xs : List V} (e : Same H H') (h : SqT K H a xs) : SqT K H' a xs := by
  rcases h with (h | ⟨o, h⟩) | h
  · exact .inl (.inl (e _ _ h))
  · exact .inl (.inr ⟨o, e _ _ h⟩)
  · exact .inr h

section
variable {K : PySem.W.Frag} {H H' : Hp}
mutual
theorem Rep.mono (e : Same H H') : ∀ {v : V} {d : D}, Rep K H v d → Rep K H' v d
  | _, _, .non => .non
  | _, _, .bl b => .bl b
  | _, _, .int i => .int i
  | _, _, .str x => .str x
  | _, _, .lst h r => .lst (e _ _ h) (Reps.mono e r)
  | _, _, .tup h r => .tup (same_sqt e h) (Reps.mono e r)
  | _, _, .dct h l r => .dct (e _ _ h) l (Reps.mono e r)
  | _, _, .obj h l r => .obj (e _ _ h) l (Reps.mono e r)
  | _, _, .exc h l r => .exc (e _ _ h) l (Reps.mono e r)
theorem Reps.mono (e : Same H H') : ∀ {vs : List V} {ds : List D}, Reps K H vs ds → Reps K H' vs ds
  | _, _, .nil => .nil
  | _, _, .cons h r => .cons (Rep.mono e h) (Reps.mono e r)
end
theorem Reps.length : ∀ {vs : List V} {ds : List D}, Reps K H vs ds → vs.length = ds.length
  | _, _, .nil => rfl
  | _, _, .cons _ r => by rw [List.length_cons, List.length_cons, Reps.length r]
theorem Reps.get : ∀ {vs : List V} {ds : List D} {i : Nat} {d : D}, Reps K H vs ds → ds[i]? = some d → ∃ v, vs[i]? = some v ∧ Rep K H v d
  | _, _, _, _, .nil, e => by simp at e
  | _, _, 0, d, .cons h r, e => by simp at e; subst e; exact ⟨_, rfl, h⟩
  | _, _, i + 1, d, .cons h r, e => by
    obtain ⟨v, h1, h2⟩ := Reps.get (i := i) (d := d) r (by simpa using e)
    exact ⟨v, by simpa using h1, h2⟩
theorem Reps.get' : ∀ {vs : List V} {ds : List D} {i : Nat} {v : V}, Reps K H vs ds → vs[i]? = some v → ∃ d, ds[i]? = some d ∧ Rep K H v d
  | _, _, _, _, .nil, e => by simp at e
  | _, _, 0, d, .cons h r, e => by simp at e; subst e; exact ⟨_, rfl, h⟩
  | _, _, i + 1, d, .cons h r, e => by
    obtain ⟨v, h1, h2⟩ := Reps.get' (i := i) (v := d) r (by simpa using e)
    exact ⟨v, by simpa using h1, h2⟩
theorem Reps.append : ∀ {vs ws : List V} {ds es : List D}, Reps K H vs ds → Reps K H ws es → Reps K H (vs ++ ws) (ds ++ es)
  | _, _, _, _, .nil, s => s
  | _, _, _, _, .cons h r, s => .cons h (Reps.append r s)
theorem Reps.take : ∀ {vs : List V} {ds : List D} (n : Nat), Reps K H vs ds → Reps K H (vs.take n) (ds.take n)
  | _, _, 0, _ => .nil
  | _, _, _ + 1, .nil => .nil
  | _, _, n + 1, .cons h r => .cons h (Reps.take n r)
theorem Reps.drop : ∀ {vs : List V} {ds : List D} (n : Nat), Reps K H vs ds → Reps K H (vs.drop n) (ds.drop n)
  | _, _, 0, r => r
  | _, _, _ + 1, .nil => .nil
  | _, _, n + 1, .cons h r => Reps.drop n r
theorem Reps.set {v : V} {d : D} (h0 : Rep K H v d) : ∀ {vs : List V} {ds : List D} (n : Nat), Reps K H vs ds → Reps K H (vs.set n v) (ds.set n d)
  | _, _, _, .nil => .nil
  | _, _, 0, .cons h r => .cons h0 r
  | _, _, n + 1, .cons h r => .cons h (Reps.set h0 n r)
theorem Reps.erase : ∀ {vs : List V} {ds : List D} (n : Nat), Reps K H vs ds → Reps K H (vs.eraseIdx n) (ds.eraseIdx n)
  | _, _, _, .nil => .nil
  | _, _, 0, .cons h r => r
  | _, _, n + 1, .cons h r => .cons h (Reps.erase n r)
theorem Reps.reverse : ∀ {vs : List V} {ds : List D}, Reps K H vs ds → Reps K H vs.reverse ds.reverse
  | _, _, .nil => .nil
  | _, _, .cons h r => by rw [List.reverse_cons, List.reverse_cons]; exact Reps.append (Reps.reverse r) (.cons h .nil)
theorem reps_ints : ∀ (ns : List Int), Reps K H (ns.map V.int) (ns.map D.int)
  | [] => .nil
  | n :: ns => .cons (.int n) (reps_ints ns)
theorem reps_strs : ∀ (ns : List Str), Reps K H (ns.map V.str) (ns.map D.str)
  | [] => .nil
  | n :: ns => .cons (.str n) (reps_strs ns)
theorem Reps.rep (n : Nat) {vs : List V} {ds : List D} (r : Reps K H vs ds) : Reps K H (List.replicate n vs).flatten (List.replicate n ds).flatten := by
  induction n with
  | zero => exact .nil
  | succ n ih => rw [List.replicate_succ, List.replicate_succ, List.flatten_cons, List.flatten_cons]; exact Reps.append r ih
theorem Reps.of_ints : ∀ {vs : List V} {ns : List Int}, Reps K H vs (ns.map D.int) → vs = ns.map V.int
  | _, [], .nil => rfl
  | _, n :: ns, .cons h r => by
    cases h
    rw [Reps.of_ints r]; rfl
theorem Reps.of_strs : ∀ {vs : List V} {ns : List Str}, Reps K H vs (ns.map D.str) → vs = ns.map V.str
  | _, [], .nil => rfl
  | _, n :: ns, .cons h r => by
    cases h
    rw [Reps.of_strs r]; rfl
theorem Reps.of_bls : ∀ {vs : List V} {ns : List Bool}, Reps K H vs (ns.map D.bl) → vs = ns.map V.bl
  | _, [], .nil => rfl
  | _, n :: ns, .cons h r => by
    cases h
    rw [Reps.of_bls r]; rfl
end

/-! ### growth: Hd holds the data, H all; the object at p (the pen) may change -/
structure Grow (p : Option Addr) (Hd H Hd' H' : Hp) : Prop where
  d : Same Hd Hd'
  h : ∀ b o, p ≠ some b → H b = some o → H' b = some o
  s : Same Hd' H'
  f : ∀ a, H a ≠ none → Hd a = none → Hd' a = none
  m : ∀ a, H a ≠ none → H' a ≠ none
section
variable {p : Option Addr} {Hd H Hd' H' Hd2 H2 : Hp}
theorem Grow.refl (s : Same Hd H) : Grow p Hd H Hd H := ⟨Same.refl _, fun _ _ _ h => h, s, fun _ _ h => h, fun _ h => h⟩
theorem Grow.trans (a : Grow p Hd H Hd' H') (b : Grow p Hd' H' Hd2 H2) : Grow p Hd H Hd2 H2 :=
  ⟨a.d.trans b.d, fun c o n h => b.h c o n (a.h c o n h), b.s, fun c h n => b.f c (a.m c h) (a.f c h n), fun c h => b.m c (a.m c h)⟩
theorem Grow.free (a : Grow p Hd H Hd' H') {l : Addr} (h : H' l = none) : H l = none := by
  cases q : H l with
  | none => rfl
  | some o => exact absurd h (a.m l (by rw [q]; simp))
/-- a new object, which is data -/
theorem Grow.new {a : Addr} {o : HO} (s : Same Hd H) (h : H a = none) : Grow p Hd H (upd Hd a o) (upd H a o) := by
  have hd : Hd a = none := s.free h
  refine ⟨fun b u e => ?_, fun b u _ e => ?_, fun b u e => ?_, fun b e n => ?_, fun b e => ?_⟩
  · rw [upd_ne (ne_of_none e hd)]; exact e
  · rw [upd_ne (ne_of_none e h)]; exact e
  · by_cases q : b = a
    · subst q; rw [upd_same] at e ⊢; exact e
    · rw [upd_ne q] at e ⊢; exact s _ _ e
  · have q : b ≠ a := fun z => by subst z; exact e h
    rw [upd_ne q]; exact n
  · by_cases q : b = a
    · subst q; rw [upd_same]; simp
    · rw [upd_ne q]; exact e
/-- a new object that is no data (as yet) -/
theorem Grow.loc {a : Addr} {o : HO} (s : Same Hd H) (h : H a = none) : Grow p Hd H Hd (upd H a o) := by
  refine ⟨Same.refl _, fun b u _ e => ?_, fun b u e => ?_, fun b e n => n, fun b e => ?_⟩
  · rw [upd_ne (ne_of_none e h)]; exact e
  · rw [upd_ne (ne_of_none (s _ _ e) h)]; exact s _ _ e
  · by_cases q : b = a
    · subst q; rw [upd_same]; simp
    · rw [upd_ne q]; exact e
/-- an object that the entry did not know is written -/
theorem Grow.write {a : Addr} {o : HO} (g : Grow p Hd H Hd' H') (h : H a = none) (hd : Hd' a = none) : Grow p Hd H Hd' (upd H' a o) := by
  refine ⟨g.d, fun b u n e => ?_, fun b u e => ?_, g.f, fun b e => ?_⟩
  · rw [upd_ne (ne_of_none e h)]; exact g.h b u n e
  · rw [upd_ne (ne_of_none e hd)]; exact g.s _ _ e
  · by_cases q : b = a
    · subst q; rw [upd_same]; simp
    · rw [upd_ne q]; exact g.m b e
/-- .. and becomes data -/
theorem Grow.freeze {a : Addr} {o : HO} (s0 : Same Hd H) (g : Grow p Hd H Hd' H') (h : H a = none) (hd : Hd' a = none) (e : H' a = some o) : Grow p Hd H (upd Hd' a o) H' := by
  refine ⟨fun b u q => ?_, g.h, fun b u q => ?_, fun b q n => ?_, g.m⟩
  · rw [upd_ne (ne_of_none (g.d _ _ q) hd)]; exact g.d _ _ q
  · by_cases z : b = a
    · subst z; rw [upd_same] at q; cases q; exact e
    · rw [upd_ne z] at q; exact g.s _ _ q
  · have z : b ≠ a := fun z => by subst z; exact q h
    rw [upd_ne z]; exact g.f b q n
theorem Grow.up (g : Grow none Hd H Hd' H') : Grow p Hd H Hd' H' := ⟨g.d, fun b o _ e => g.h b o (by simp) e, g.s, g.f, g.m⟩
theorem Grow.back (g : Grow p Hd H Hd' H') {a : Addr} (h : Hd a = none) (n : H a ≠ none) : Hd' a = none := g.f a n h
end

/-! ### the pen: its dict at a, its cells at c -/
def LIM : Nat := 1000000000000
def penKvs (c : Addr) (i dg ct fd : Int) : List (Key × V) := [(.inr "cells", .ref c), (.inr "at", .int i), (.inr "digits", .int dg), (.inr "count", .int ct), (.inr "fold", .int fd)]
structure PenAt (n : Nat) (Hd H : Hp) (a c : Addr) : Prop where
  h : ∃ i dg ct fd : Int, H a = some (.dK (penKvs c i dg ct fd)) ∧ 0 ≤ i ∧ 0 ≤ dg ∧ 0 ≤ ct ∧ ct ≤ n ∧ 0 ≤ fd ∧ fd < 2147483587
  d : Hd a = none
  c : ∃ ns : List Int, Hd c = some (.lst (ns.map V.int)) ∧ ns.length ≤ 63
abbrev Pn := Option (Addr × Addr)
abbrev Pn.a (p : Pn) : Option Addr := p.map (·.1)
def PenO : Pn → Nat → Hp → Hp → Prop
  | none, _, _, _ => True
  | some (a, c), n, Hd, H => PenAt n Hd H a c
section
variable {p : Pn} {n m : Nat} {Hd H Hd' H' : Hp}
theorem PenO.more (h : PenO p n Hd H) (e : n ≤ m) : PenO p m Hd H := by
  cases p with
  | none => exact True.intro
  | some q =>
    obtain ⟨⟨i, dg, ct, fd, h1, h2, h3, h4, h5, h6⟩, hd, hc⟩ := h
    exact ⟨⟨i, dg, ct, fd, h1, h2, h3, h4, by omega, h6⟩, hd, hc⟩
theorem PenO.grow (h : PenO p n Hd H) (g : Grow none Hd H Hd' H') : PenO p n Hd' H' := by
  cases p with
  | none => exact True.intro
  | some q =>
    obtain ⟨⟨i, dg, ct, fd, h1, h2⟩, hd, ns, hc, hl⟩ := h
    exact ⟨⟨i, dg, ct, fd, g.h _ _ (by simp) h1, h2⟩, g.f _ (by rw [h1]; simp) hd, ns, g.d _ _ hc, hl⟩
/-- an object beside the pen is written -/
theorem PenO.write {b : Addr} {o : HO} (h : PenO p n Hd H) (e : p.a ≠ some b) : PenO p n Hd (upd H b o) := by
  cases p with
  | none => exact True.intro
  | some q =>
    obtain ⟨⟨i, dg, ct, fd, h1, h2⟩, hd, hc⟩ := h
    refine ⟨⟨i, dg, ct, fd, ?_, h2⟩, hd, hc⟩
    rw [upd_ne (fun z => e (by subst z; rfl))]; exact h1
theorem PenO.freeze {b : Addr} {o : HO} (h : PenO p n Hd H) (e : p.a ≠ some b) (nb : Hd b = none) : PenO p n (upd Hd b o) H := by
  cases p with
  | none => exact True.intro
  | some q =>
    obtain ⟨h1, hd, ns, hc, hl⟩ := h
    refine ⟨h1, ?_, ns, ?_, hl⟩
    · rw [upd_ne (fun z => e (by subst z; rfl))]; exact hd
    · rw [upd_ne (ne_of_none hc nb)]; exact hc
theorem PenO.ne (h : PenO p n Hd H) {b : Addr} {o : HO} (e : Hd b = some o) : p.a ≠ some b := by
  cases p with
  | none => simp
  | some q =>
    intro z
    have z' : q.1 = b := by simpa using z
    subst z'
    have := h.d
    rw [e] at this; cases this
end

/-! ### slots -/
inductive Sk where
  | un | dat (d : D) | own (ds : List D) | odk (ks : List Key) (ds : List D) | slf (a C dx : Addr) (ns : List Str) (ds : List D) | pen
def Sk.isOwn : Sk → Bool
  | .own _ => true
  | .odk _ _ => true
  | .slf _ _ _ _ _ => true
  | _ => false
def SkAt (K : PySem.W.Frag) (p : Pn) (Hd H : Hp) (o : Option V) : Sk → Prop
  | .un => True
  | .dat d => ∃ v, o = some v ∧ Rep K Hd v d
  | .own ds => ∃ l vs, o = some (.ref l) ∧ H l = some (.lst vs) ∧ Hd l = none ∧ Reps K Hd vs ds ∧ p.a ≠ some l
  | .odk ks ds => ∃ l vs, o = some (.ref l) ∧ H l = some (.dK (ks.zip vs)) ∧ ks.length = vs.length ∧ Hd l = none ∧ Reps K Hd vs ds ∧ p.a ≠ some l
  | .slf a C dx ns ds => ∃ l vs, o = some (.ref l) ∧ H l = some (.ins C dx (ns.zip vs)) ∧ (ns.length = vs.length ∧ l = a) ∧ Hd l = none ∧ Reps K Hd vs ds ∧ p.a ≠ some l
  | .pen => ∃ a, o = some (.ref a) ∧ p.a = some a
structure SR (K : PySem.W.Frag) (p : Pn) (Hd H : Hp) (σ : St) (Γ : List Sk) : Prop where
  len : σ.length = Γ.length
  ok : ∀ (i : Nat) o k, σ[i]? = some o → Γ[i]? = some k → SkAt K p Hd H o k
  ap : ∀ (i j : Nat) k1 k2 l, i ≠ j → Γ[i]? = some k1 → k1.isOwn = true → Γ[j]? = some k2 → k2.isOwn = true → σ[i]? = some (some (.ref l)) → σ[j]? ≠ some (some (.ref l))
section
variable {K : PySem.W.Frag} {p : Pn} {Hd H Hd' H' : Hp} {σ : St} {Γ : List Sk} {i : Nat}
theorem SkAt.grow {o : Option V} {k : Sk} (g : Grow p.a Hd H Hd' H') (h : SkAt K p Hd H o k) : SkAt K p Hd' H' o k := by
  cases k with
  | un => exact True.intro
  | dat d => obtain ⟨v, e, r⟩ := h; exact ⟨v, e, r.mono g.d⟩
  | own ds => obtain ⟨l, vs, e, h1, h2, r, ne⟩ := h; exact ⟨l, vs, e, g.h _ _ ne h1, g.f _ (by rw [h1]; simp) h2, r.mono g.d, ne⟩
  | odk ks ds => obtain ⟨l, vs, e, h1, hl, h2, r, ne⟩ := h; exact ⟨l, vs, e, g.h _ _ ne h1, hl, g.f _ (by rw [h1]; simp) h2, r.mono g.d, ne⟩
  | slf a C dx ns ds => obtain ⟨l, vs, e, h1, hl, h2, r, ne⟩ := h; exact ⟨l, vs, e, g.h _ _ ne h1, hl, g.f _ (by rw [h1]; simp) h2, r.mono g.d, ne⟩
  | pen => exact h
theorem SR.grow (s : SR K p Hd H σ Γ) (g : Grow p.a Hd H Hd' H') : SR K p Hd' H' σ Γ := ⟨s.len, fun i o k h1 h2 => (s.ok i o k h1 h2).grow g, s.ap⟩
theorem SR.get (s : SR K p Hd H σ Γ) {k : Sk} (h : Γ[i]? = some k) : ∃ o, σ[i]? = some o ∧ SkAt K p Hd H o k := by
  have hl : i < σ.length := by rw [s.len]; exact (List.getElem?_eq_some_iff.mp h).1
  exact ⟨σ[i], by simp [hl], s.ok i _ k (by simp [hl]) h⟩
theorem SR.dat (s : SR K p Hd H σ Γ) {d : D} (h : Γ[i]? = some (.dat d)) : ∃ v, σ[i]? = some (some v) ∧ Rep K Hd v d := by
  obtain ⟨o, e, v, rfl, r⟩ := s.get h
  exact ⟨v, e, r⟩
/-- a slot that owns nothing is stored -/
theorem SR.set (s : SR K p Hd H σ Γ) {o : Option V} {k : Sk} (h : SkAt K p Hd H o k) (n : k.isOwn = false) : SR K p Hd H (σ.set i o) (Γ.set i k) := by
  refine ⟨by rw [List.length_set, List.length_set]; exact s.len, fun j o' k' h1 h2 => ?_, fun j j' k1 k2 l ne h1 o1 h2 o2 e1 e2 => ?_⟩
  · by_cases e : i = j
    · subst e
      rw [List.getElem?_set_self'] at h1 h2
      cases q1 : σ[i]? with
      | none => rw [q1] at h1; simp at h1
      | some _ =>
        cases q2 : Γ[i]? with
        | none => rw [q2] at h2; simp at h2
        | some _ =>
          rw [q1] at h1; rw [q2] at h2
          simp at h1 h2
          subst h1; subst h2
          exact h
    · rw [List.getElem?_set_ne e] at h1 h2
      exact s.ok j _ _ h1 h2
  · have a1 : i ≠ j := fun e => by
      subst e
      rw [List.getElem?_set_self'] at h1
      cases q2 : Γ[i]? with
      | none => rw [q2] at h1; simp at h1
      | some _ => rw [q2] at h1; simp at h1; subst h1; rw [n] at o1; cases o1
    have a2 : i ≠ j' := fun e => by
      subst e
      rw [List.getElem?_set_self'] at h2
      cases q2 : Γ[i]? with
      | none => rw [q2] at h2; simp at h2
      | some _ => rw [q2] at h2; simp at h2; subst h2; rw [n] at o2; cases o2
    rw [List.getElem?_set_ne a1] at h1 e1
    rw [List.getElem?_set_ne a2] at h2 e2
    exact s.ap j j' k1 k2 l ne h1 o1 h2 o2 e1 e2
/-- slots are forgotten -/
theorem SR.weak (s : SR K p Hd H σ Γ) {σ' : St} {Γ' : List Sk} (hl : σ'.length = Γ'.length) (w : ∀ (i : Nat) k, Γ'[i]? = some k → k = .un ∨ (Γ[i]? = some k ∧ σ'[i]? = σ[i]?)) : SR K p Hd H σ' Γ' := by
  refine ⟨hl, fun i o k h1 h2 => ?_, fun i j k1 k2 l ne h1 o1 h2 o2 e1 => ?_⟩
  · rcases w i k h2 with rfl | ⟨e1, e2⟩
    · exact True.intro
    · exact s.ok i o k (e2 ▸ h1) e1
  · rcases w i k1 h1 with rfl | ⟨a1, a2⟩
    · cases o1
    · rcases w j k2 h2 with rfl | ⟨b1, b2⟩
      · cases o2
      · rw [b2]; rw [a2] at e1
        exact s.ap i j k1 k2 l ne a1 o1 b1 o2 e1
end
end DL
set_option maxRecDepth 100000
set_option maxHeartbeats 4000000
/-! DL2: what an expression gives: Ev (no slot changes), EvM (owned slots may change). -/
namespace DL
open PySem L2

/-- where one stands: the text, the pen, what is wished of exceptions, which ones may leave -/
structure Ct where
  K : PySem.W.Frag
  p : Pn
  E : XK
  χ : Addr → List (Str × D) → Prop
def XAt (K : PySem.W.Frag) (Hd H : Hp) (dx : Addr) (fs : List (Str × D)) : Prop := ∃ xs : List V, Hd dx = some (.xd ((fs.map (·.1)).zip xs)) ∧ Reps K Hd xs (fs.map (·.2))
def Xs (c : Ct) (Hd H : Hp) : Prop := ∀ C dx fs Hd' H', Grow c.p.a Hd H Hd' H' → c.χ C fs → XAt c.K Hd' H' dx fs → c.E (.ref C) (some dx) H'
theorem Xs.grow {c : Ct} {Hd H Hd' H' : Hp} (x : Xs c Hd H) (g : Grow c.p.a Hd H Hd' H') : Xs c Hd' H' := fun C dx fs _ _ g' h k => x C dx fs _ _ (g.trans g') h k

def Ev (c : Ct) (te : TE) (Γ : List Sk) (m : Nat) (φ : D → Prop) : Prop := ∀ σ Hd H n, SR c.K c.p Hd H σ Γ → Same Hd H → PenO c.p n Hd H → n + m ≤ LIM → Xs c Hd H → ∀ Q : VK,
  (∀ v d Hd' H', Grow c.p.a Hd H Hd' H' → PenO c.p (n + m) Hd' H' → φ d → Rep c.K Hd' v d → Q v H') → te σ H Q
def EvB (c : Ct) (tt : TT) (Γ : List Sk) (m : Nat) (β : Bool → Prop) : Prop := ∀ σ Hd H n, SR c.K c.p Hd H σ Γ → Same Hd H → PenO c.p n Hd H → n + m ≤ LIM → Xs c Hd H → ∀ Q : Bool → Hp → Prop,
  (∀ b Hd' H', Grow c.p.a Hd H Hd' H' → PenO c.p (n + m) Hd' H' → β b → Q b H') → tt σ H Q
def EvA (c : Ct) (ta : TA) (Γ : List Sk) (m : Nat) (ψ : List D → Prop) : Prop := ∀ σ Hd H n, SR c.K c.p Hd H σ Γ → Same Hd H → PenO c.p n Hd H → n + m ≤ LIM → Xs c Hd H → ∀ Q : List V → Hp → Prop,
  (∀ vs ds Hd' H', Grow c.p.a Hd H Hd' H' → PenO c.p (n + m) Hd' H' → ψ ds → Reps c.K Hd' vs ds → Q vs H') → ta σ H Q
/-- an optional part of a slice -/
def EvO (c : Ct) (to : TO) (Γ : List Sk) (m : Nat) (ω : Option Int → Prop) : Prop := ∀ σ Hd H n, SR c.K c.p Hd H σ Γ → Same Hd H → PenO c.p n Hd H → n + m ≤ LIM → Xs c Hd H → ∀ Q : Option Int → Hp → Prop,
  (∀ o Hd' H', Grow c.p.a Hd H Hd' H' → PenO c.p (n + m) Hd' H' → ω o → Q o H') → to σ H Q
/-- operations by values -/
def Op2 (c : Ct) (r : R2) (a b : D) (φ : D → Prop) : Prop := ∀ x y Hd H, Same Hd H → Rep c.K Hd x a → Rep c.K Hd y b → ∀ Q : VK, (∀ v d Hd' H', Grow none Hd H Hd' H' → φ d → Rep c.K Hd' v d → Q v H') → r x y H Q
def Op1 (c : Ct) (r : V → Hp → VK → Prop) (a : D) (φ : D → Prop) : Prop := ∀ x Hd H, Same Hd H → Rep c.K Hd x a → ∀ Q : VK, (∀ v d Hd' H', Grow none Hd H Hd' H' → φ d → Rep c.K Hd' v d → Q v H') → r x H Q
def OpN (c : Ct) (r : List V → Hp → VK → Prop) (as : List D) (φ : D → Prop) : Prop := ∀ xs Hd H, Same Hd H → Reps c.K Hd xs as → ∀ Q : VK, (∀ v d Hd' H', Grow none Hd H Hd' H' → φ d → Rep c.K Hd' v d → Q v H') → r xs H Q

section
variable {c : Ct} {Γ : List Sk} {m m1 m2 m3 : Nat} {φ ψ φ1 φ2 φ3 : D → Prop} {β β1 β2 : Bool → Prop} {ta tb te tx : TE} {t u : TT} {r : R2}

theorem Ev.imp (h : Ev c te Γ m φ) (e : ∀ d, φ d → ψ d) : Ev c te Γ m ψ := fun σ Hd H n s sa pe l x Q q => h σ Hd H n s sa pe l x Q fun v d Hd' H' g pe' f => q v d Hd' H' g pe' (e d f)
theorem Ev.more (h : Ev c te Γ m φ) (e : m ≤ m1) : Ev c te Γ m1 φ := fun σ Hd H n s sa pe l x Q q => h σ Hd H n s sa pe (by omega) x Q fun v d Hd' H' g pe' f => q v d Hd' H' g (pe'.more (by omega)) f
theorem EvB.imp (h : EvB c t Γ m β) (e : ∀ d, β d → β1 d) : EvB c t Γ m β1 := fun σ Hd H n s sa pe l x Q q => h σ Hd H n s sa pe l x Q fun v Hd' H' g pe' f => q v Hd' H' g pe' (e v f)
theorem EvB.more (h : EvB c t Γ m β) (e : m ≤ m1) : EvB c t Γ m1 β := fun σ Hd H n s sa pe l x Q q => h σ Hd H n s sa pe (by omega) x Q fun v Hd' H' g pe' f => q v Hd' H' g (pe'.more (by omega)) f
theorem EvA.imp {ta : TA} {ψ1 ψ2 : List D → Prop} (h : EvA c ta Γ m ψ1) (e : ∀ d, ψ1 d → ψ2 d) : EvA c ta Γ m ψ2 := fun σ Hd H n s sa pe l x Q q => h σ Hd H n s sa pe l x Q fun v d Hd' H' g pe' f => q v d Hd' H' g pe' (e d f)
theorem EvA.more {ta : TA} {ψ1 : List D → Prop} (h : EvA c ta Γ m ψ1) (e : m ≤ m1) : EvA c ta Γ m1 ψ1 := fun σ Hd H n s sa pe l x Q q => h σ Hd H n s sa pe (by omega) x Q fun v d Hd' H' g pe' f => q v d Hd' H' g (pe'.more (by omega)) f
theorem Ev.to {d e : D} (h : Ev c te Γ m (· = d)) (q : d = e) : Ev c te Γ m (· = e) := q ▸ h
theorem EvB.to {d e : Bool} (h : EvB c t Γ m (· = d)) (q : d = e) : EvB c t Γ m (· = e) := q ▸ h

/-! names, constants -/
theorem ev_var {i : Nat} {d : D} (h : Γ[i]? = some (.dat d)) : Ev c (tVar i) Γ 0 (· = d) := fun σ Hd H n s sa pe l x Q q => by
  obtain ⟨v, e, r⟩ := s.dat h
  exact ⟨v, e, q v d Hd H (.refl sa) pe rfl r⟩
theorem ev_int {i : Int} : Ev c (tC (.int i)) Γ 0 (· = .int i) := fun σ Hd H n s sa pe l x Q q => q _ _ Hd H (.refl sa) pe rfl (.int i)
theorem ev_bl {i : Bool} : Ev c (tC (.bl i)) Γ 0 (· = .bl i) := fun σ Hd H n s sa pe l x Q q => q _ _ Hd H (.refl sa) pe rfl (.bl i)
theorem ev_str {i : Str} : Ev c (tC (.str i)) Γ 0 (· = .str i) := fun σ Hd H n s sa pe l x Q q => q _ _ Hd H (.refl sa) pe rfl (.str i)
theorem ev_non : Ev c (tC .non) Γ 0 (· = .non) := fun σ Hd H n s sa pe l x Q q => q _ _ Hd H (.refl sa) pe rfl .non
/-- a tuple of the module -/
theorem ev_ktup {a : Addr} {xs : List V} {ds : List D} (h : ∀ H, SqT c.K H a xs) (r : ∀ H, Reps c.K H xs ds) : Ev c (tC (.ref a)) Γ 0 (· = .tup ds) := fun σ Hd H n s sa pe l x Q q => q _ _ Hd H (.refl sa) pe rfl (.tup (h Hd) (r Hd))

/-! operations -/
theorem ev_op (ha : Ev c ta Γ m1 φ1) (hb : Ev c tb Γ m2 φ2) (h : ∀ a b, φ1 a → φ2 b → Op2 c r a b φ) : Ev c (tOp r ta tb) Γ (m1 + m2) φ := fun σ Hd H n s sa pe l x Q q =>
  ha σ Hd H n s sa pe (by omega) x _ fun v a Hd1 H1 g1 pe1 f1 r1 => hb σ Hd1 H1 (n + m1) (s.grow g1) g1.s pe1 (by omega) (x.grow g1) _ fun w b Hd2 H2 g2 pe2 f2 r2 =>
    h a b f1 f2 v w Hd2 H2 g2.s (r1.mono g2.d) r2 Q fun z d Hd3 H3 g3 f3 r3 => q z d Hd3 H3 ((g1.trans g2).trans g3.up) (by rw [← Nat.add_assoc]; exact pe2.grow g3) f3 r3
theorem ev_un {r : V → Hp → VK → Prop} (ha : Ev c ta Γ m φ1) (h : ∀ a, φ1 a → Op1 c r a φ) : Ev c (tUn r ta) Γ m φ := fun σ Hd H n s sa pe l x Q q =>
  ha σ Hd H n s sa pe l x _ fun v a Hd1 H1 g1 pe1 f1 r1 => h a f1 v Hd1 H1 g1.s r1 Q fun z d Hd3 H3 g3 f3 r3 => q z d Hd3 H3 (g1.trans g3.up) (pe1.grow g3) f3 r3
/-- exact forms -/
theorem ev_op_ {a b d : D} (ha : Ev c ta Γ m1 (· = a)) (hb : Ev c tb Γ m2 (· = b)) (h : Op2 c r a b (· = d)) : Ev c (tOp r ta tb) Γ (m1 + m2) (· = d) := ev_op ha hb fun _ _ e1 e2 => by subst e1; subst e2; exact h

/-! arguments, displays -/
theorem ea_nil : EvA c tNil Γ 0 (· = []) := fun σ Hd H n s sa pe l x Q q => q [] [] Hd H (.refl sa) pe rfl .nil
theorem ea_cons {tr : TA} {ψ1 : List D → Prop} (h : Ev c ta Γ m1 φ1) (hr : EvA c tr Γ m2 ψ1) : EvA c (tCons ta tr) Γ (m1 + m2) (fun ds => ∃ d es, ds = d :: es ∧ φ1 d ∧ ψ1 es) := fun σ Hd H n s sa pe l x Q q =>
  h σ Hd H n s sa pe (by omega) x _ fun v a Hd1 H1 g1 pe1 f1 r1 => hr σ Hd1 H1 (n + m1) (s.grow g1) g1.s pe1 (by omega) (x.grow g1) _ fun w b Hd2 H2 g2 pe2 f2 r2 =>
    q (v :: w) (a :: b) Hd2 H2 (g1.trans g2) (by rw [← Nat.add_assoc]; exact pe2) ⟨a, b, rfl, f1, f2⟩ (.cons (r1.mono g2.d) r2)
theorem ea_cons_ {tr : TA} {d : D} {ds : List D} (h : Ev c ta Γ m1 (· = d)) (hr : EvA c tr Γ m2 (· = ds)) : EvA c (tCons ta tr) Γ (m1 + m2) (· = d :: ds) :=
  (ea_cons h hr).imp fun _ ⟨a, b, e, e1, e2⟩ => by rw [e, e1, e2]
theorem ev_tup {ta : TA} {ψ1 : List D → Prop} (h : EvA c ta Γ m ψ1) (hl : ∀ ds, ψ1 ds → ds.length ≤ 1000) : Ev c (tTup ta) Γ m (fun d => ∃ ds, d = .tup ds ∧ ψ1 ds) := fun σ Hd H n s sa pe l x Q q =>
  h σ Hd H n s sa pe l x _ fun vs ds Hd1 H1 g1 pe1 f1 r1 => ⟨Nat.le_of_lt (small1000 (by rw [r1.length]; exact hl ds f1)), fun a ha => by
    have g := Grow.new (p := none) (o := HO.tup vs) g1.s ha
    exact q (.ref a) (.tup ds) _ _ (g1.trans g.up) (pe1.grow g) ⟨ds, rfl, f1⟩ (.tup (SqT.of upd_same) (r1.mono g.d))⟩
theorem ev_tup_ {ta : TA} {ds : List D} (h : EvA c ta Γ m (· = ds)) (hl : ds.length ≤ 1000 := by first | decide | simp) : Ev c (tTup ta) Γ m (· = .tup ds) := (ev_tup h fun _ e => by rw [e]; exact hl).imp fun _ ⟨ds, e, e2⟩ => by rw [e, e2]
theorem ev_lst {ta : TA} {ψ1 : List D → Prop} (h : EvA c ta Γ m ψ1) (hl : ∀ ds, ψ1 ds → ds.length ≤ 1000) : Ev c (tLst ta) Γ m (fun d => ∃ ds, d = .lst ds ∧ ψ1 ds) := fun σ Hd H n s sa pe l x Q q =>
  h σ Hd H n s sa pe l x _ fun vs ds Hd1 H1 g1 pe1 f1 r1 => ⟨Nat.le_of_lt (small1000 (by rw [r1.length]; exact hl ds f1)), fun a ha => by
    have g := Grow.new (p := none) (o := HO.lst vs) g1.s ha
    exact q (.ref a) (.lst ds) _ _ (g1.trans g.up) (pe1.grow g) ⟨ds, rfl, f1⟩ (.lst upd_same (r1.mono g.d))⟩
theorem ev_lst_ {ta : TA} {ds : List D} (h : EvA c ta Γ m (· = ds)) (hl : ds.length ≤ 1000 := by first | decide | simp) : Ev c (tLst ta) Γ m (· = .lst ds) := (ev_lst h fun _ e => by rw [e]; exact hl).imp fun _ ⟨ds, e, e2⟩ => by rw [e, e2]

/-! tests -/
theorem eb_test (h : Ev c te Γ m (fun d => ∃ b, d = .bl b ∧ β b)) : EvB c (tTest te) Γ m β := fun σ Hd H n s sa pe l x Q q =>
  h σ Hd H n s sa pe l x _ fun v d Hd1 H1 g1 pe1 ⟨b, e, f⟩ r1 => by subst e; cases r1; exact ⟨b, rfl, q b Hd1 H1 g1 pe1 f⟩
theorem eb_test_ {b : Bool} (h : Ev c te Γ m (· = .bl b)) : EvB c (tTest te) Γ m (· = b) := eb_test (h.imp fun _ e => ⟨b, e, rfl⟩)
theorem eb_B (h : Ev c te Γ m (fun d => ∃ b, d = .bl b ∧ β b)) : EvB c (tB te) Γ m β := fun σ Hd H n s sa pe l x Q q =>
  h σ Hd H n s sa pe l x _ fun v d Hd1 H1 g1 pe1 ⟨b, e, f⟩ r1 => by subst e; cases r1; exact ⟨b, rfl, q b Hd1 H1 g1 pe1 f⟩
theorem eb_B_ {b : Bool} (h : Ev c te Γ m (· = .bl b)) : EvB c (tB te) Γ m (· = b) := eb_B (h.imp fun _ e => ⟨b, e, rfl⟩)
theorem eb_not (h : EvB c t Γ m β1) : EvB c (tNot t) Γ m (fun b => β1 (!b)) := fun σ Hd H n s sa pe l x Q q =>
  h σ Hd H n s sa pe l x _ fun b Hd1 H1 g1 pe1 f => q (!b) Hd1 H1 g1 pe1 (by show β1 (!(!b)); rw [Bool.not_not]; exact f)
theorem eb_not_ {b : Bool} (h : EvB c t Γ m (· = b)) : EvB c (tNot t) Γ m (· = !b) := (eb_not h).imp fun d e => by rw [← e, Bool.not_not]
theorem eb_and (h : EvB c t Γ m1 β1) (h2 : β1 true → EvB c u Γ m2 β) (h3 : β1 false → β false) : EvB c (tAnd t u) Γ (m1 + m2) β := fun σ Hd H n s sa pe l x Q q =>
  h σ Hd H n s sa pe (by omega) x _ fun b Hd1 H1 g1 pe1 f => by
    cases b with
    | true =>
      refine h2 f σ Hd1 H1 (n + m1) (s.grow g1) g1.s pe1 (by omega) (x.grow g1) _ fun b Hd2 H2 g2 pe2 f2 => ?_
      exact q b Hd2 H2 (g1.trans g2) (by rw [← Nat.add_assoc]; exact pe2) f2
    | false => exact q false Hd1 H1 g1 (pe1.more (by omega)) (h3 f)
theorem eb_or (h : EvB c t Γ m1 β1) (h2 : β1 false → EvB c u Γ m2 β) (h3 : β1 true → β true) : EvB c (tOr t u) Γ (m1 + m2) β := fun σ Hd H n s sa pe l x Q q =>
  h σ Hd H n s sa pe (by omega) x _ fun b Hd1 H1 g1 pe1 f => by
    cases b with
    | false =>
      refine h2 f σ Hd1 H1 (n + m1) (s.grow g1) g1.s pe1 (by omega) (x.grow g1) _ fun b Hd2 H2 g2 pe2 f2 => ?_
      exact q b Hd2 H2 (g1.trans g2) (by rw [← Nat.add_assoc]; exact pe2) f2
    | true => exact q true Hd1 H1 g1 (pe1.more (by omega)) (h3 f)
theorem eb_and_ {a b : Bool} (h : EvB c t Γ m1 (· = a)) (h2 : a = true → EvB c u Γ m2 (· = b)) : EvB c (tAnd t u) Γ (m1 + m2) (· = (a && b)) := eb_and h (fun e => (h2 e.symm).imp fun d q => by rw [q, ← e]; rfl) fun e => by rw [← e]; rfl
theorem eb_or_ {a b : Bool} (h : EvB c t Γ m1 (· = a)) (h2 : a = false → EvB c u Γ m2 (· = b)) : EvB c (tOr t u) Γ (m1 + m2) (· = (a || b)) := eb_or h (fun e => (h2 e.symm).imp fun d q => by rw [q, ← e]; rfl) fun e => by rw [← e]; rfl
/-- .. as values -/
theorem ev_andV (h : Ev c ta Γ m1 (fun d => ∃ b, d = .bl b ∧ β b)) (h2 : β true → Ev c tb Γ m2 φ) (h3 : β false → φ (.bl false)) : Ev c (tAndV ta tb) Γ (m1 + m2) φ := fun σ Hd H n s sa pe l x Q q =>
  h σ Hd H n s sa pe (by omega) x _ fun v d Hd1 H1 g1 pe1 ⟨b, e, f⟩ r1 => by
    subst e; cases r1
    refine ⟨b, rfl, ?_⟩
    cases b with
    | true =>
      refine h2 f σ Hd1 H1 (n + m1) (s.grow g1) g1.s pe1 (by omega) (x.grow g1) _ fun v d Hd2 H2 g2 pe2 f2 r2 => ?_
      exact q v d Hd2 H2 (g1.trans g2) (by rw [← Nat.add_assoc]; exact pe2) f2 r2
    | false => exact q _ _ Hd1 H1 g1 (pe1.more (by omega)) (h3 f) (.bl false)
theorem ev_orV (h : Ev c ta Γ m1 (fun d => ∃ b, d = .bl b ∧ β b)) (h2 : β false → Ev c tb Γ m2 φ) (h3 : β true → φ (.bl true)) : Ev c (tOrV ta tb) Γ (m1 + m2) φ := fun σ Hd H n s sa pe l x Q q =>
  h σ Hd H n s sa pe (by omega) x _ fun v d Hd1 H1 g1 pe1 ⟨b, e, f⟩ r1 => by
    subst e; cases r1
    refine ⟨b, rfl, ?_⟩
    cases b with
    | false =>
      refine h2 f σ Hd1 H1 (n + m1) (s.grow g1) g1.s pe1 (by omega) (x.grow g1) _ fun v d Hd2 H2 g2 pe2 f2 r2 => ?_
      exact q v d Hd2 H2 (g1.trans g2) (by rw [← Nat.add_assoc]; exact pe2) f2 r2
    | true => exact q _ _ Hd1 H1 g1 (pe1.more (by omega)) (h3 f) (.bl true)
theorem ev_andV_ {a b : Bool} (h : Ev c ta Γ m1 (· = .bl a)) (h2 : a = true → Ev c tb Γ m2 (· = .bl b)) : Ev c (tAndV ta tb) Γ (m1 + m2) (· = .bl (a && b)) :=
  ev_andV (β := (· = a)) (h.imp fun _ e => ⟨a, e, rfl⟩) (fun e => (h2 e.symm).imp fun d q => by rw [q, ← e]; rfl) fun e => by rw [← e]; rfl
theorem ev_orV_ {a b : Bool} (h : Ev c ta Γ m1 (· = .bl a)) (h2 : a = false → Ev c tb Γ m2 (· = .bl b)) : Ev c (tOrV ta tb) Γ (m1 + m2) (· = .bl (a || b)) :=
  ev_orV (β := (· = a)) (h.imp fun _ e => ⟨a, e, rfl⟩) (fun e => (h2 e.symm).imp fun d q => by rw [q, ← e]; rfl) fun e => by rw [← e]; rfl
theorem ev_notV_ {a : Bool} (h : Ev c ta Γ m (· = .bl a)) : Ev c (tNotV ta) Γ m (· = .bl (!a)) := fun σ Hd H n s sa pe l x Q q =>
  h σ Hd H n s sa pe l x _ fun v d Hd1 H1 g1 pe1 e r1 => by subst e; cases r1; exact ⟨a, rfl, q _ _ Hd1 H1 g1 pe1 rfl (.bl _)⟩
theorem ev_if (h : EvB c t Γ m1 β) (h1 : β true → Ev c ta Γ m2 φ) (h2 : β false → Ev c tb Γ m2 φ) : Ev c (tIf t ta tb) Γ (m1 + m2) φ := fun σ Hd H n s sa pe l x Q q =>
  h σ Hd H n s sa pe (by omega) x _ fun b Hd1 H1 g1 pe1 f => by
    cases b with
    | true =>
      refine h1 f σ Hd1 H1 (n + m1) (s.grow g1) g1.s pe1 (by omega) (x.grow g1) _ fun v d Hd2 H2 g2 pe2 f2 r2 => ?_
      exact q v d Hd2 H2 (g1.trans g2) (by rw [← Nat.add_assoc]; exact pe2) f2 r2
    | false =>
      refine h2 f σ Hd1 H1 (n + m1) (s.grow g1) g1.s pe1 (by omega) (x.grow g1) _ fun v d Hd2 H2 g2 pe2 f2 r2 => ?_
      exact q v d Hd2 H2 (g1.trans g2) (by rw [← Nat.add_assoc]; exact pe2) f2 r2
theorem ev_if_ {b : Bool} {d e : D} (h : EvB c t Γ m1 (· = b)) (h1 : b = true → Ev c ta Γ m2 (· = d)) (h2 : b = false → Ev c tb Γ m2 (· = e)) : Ev c (tIf t ta tb) Γ (m1 + m2) (· = if b = true then d else e) :=
  ev_if h (fun q => (h1 q.symm).imp fun _ z => by rw [z, ← q]; rfl) (fun q => (h2 q.symm).imp fun _ z => by rw [z, ← q]; rfl)

/-! slices -/
theorem eo_none : EvO c tNoPart Γ 0 (· = none) := fun σ Hd H n s sa pe l x Q q => q none Hd H (.refl sa) pe rfl
theorem eo_some {i : Int} (h : Ev c te Γ m (· = .int i)) : EvO c (tPart te) Γ m (· = some i) := fun σ Hd H n s sa pe l x Q q =>
  h σ Hd H n s sa pe l x _ fun v d Hd1 H1 g1 pe1 e r1 => by subst e; cases r1; exact ⟨i, rfl, q _ Hd1 H1 g1 pe1 rfl⟩
theorem eo_someG {ι : Int → Prop} (h : Ev c te Γ m (fun d => ∃ i, d = .int i ∧ ι i)) : EvO c (tPart te) Γ m (fun o => ∃ i, o = some i ∧ ι i) := fun σ Hd H n s sa pe l x Q q =>
  h σ Hd H n s sa pe l x _ fun v d Hd1 H1 g1 pe1 ⟨i, e, f⟩ r1 => by subst e; cases r1; exact ⟨i, rfl, q _ Hd1 H1 g1 pe1 ⟨i, rfl, f⟩⟩
end
end DL
set_option maxRecDepth 100000
set_option maxHeartbeats 4000000
/-! DL3: what is walked, comprehensions, promises and calls. -/
namespace DL
open PySem L2

/-! ### slots by several -/
def setD (Γ : List Sk) : List (Nat × D) → List Sk
  | [] => Γ
  | (i, d) :: ps => setD (Γ.set i (.dat d)) ps
def wipeG (Γ : List Sk) : List Nat → List Sk
  | [] => Γ
  | v :: vs => (wipeG Γ vs).set v .un
theorem wipeG_length (Γ : List Sk) : ∀ vs, (wipeG Γ vs).length = Γ.length
  | [] => rfl
  | v :: vs => by rw [wipeG, List.length_set, wipeG_length Γ vs]
theorem wipe_at (σ : St) (vs : List Nat) (j : Nat) : (wipe σ vs)[j]? = if j ∈ vs then σ[j]?.map (fun _ => none) else σ[j]? := by
  induction vs with
  | nil => rw [if_neg (by simp)]; rfl
  | cons v vs ih =>
    rw [wipe]
    by_cases e : v = j
    · subst e
      rw [if_pos List.mem_cons_self]
      by_cases h : v < σ.length
      · rw [List.getElem?_set_self (by rw [wipe_length]; exact h), List.getElem?_eq_getElem h]; rfl
      · rw [List.getElem?_eq_none (by rw [List.length_set, wipe_length]; omega), List.getElem?_eq_none (by omega)]; rfl
    · rw [List.getElem?_set_ne e, ih]
      have e' : ¬ j = v := fun z => e z.symm
      by_cases h : j ∈ vs
      · rw [if_pos h, if_pos (List.mem_cons_of_mem _ h)]
      · rw [if_neg h, if_neg (by simp [h, e'])]
theorem wipeG_at (Γ : List Sk) (vs : List Nat) (j : Nat) : (wipeG Γ vs)[j]? = if j ∈ vs then Γ[j]?.map (fun _ => .un) else Γ[j]? := by
  induction vs with
  | nil => rw [if_neg (by simp)]; rfl
  | cons v vs ih =>
    rw [wipeG]
    by_cases e : v = j
    · subst e
      rw [if_pos List.mem_cons_self]
      by_cases h : v < Γ.length
      · rw [List.getElem?_set_self (by rw [wipeG_length]; exact h), List.getElem?_eq_getElem h]; rfl
      · rw [List.getElem?_eq_none (by rw [List.length_set, wipeG_length]; omega), List.getElem?_eq_none (by omega)]; rfl
    · rw [List.getElem?_set_ne e, ih]
      have e' : ¬ j = v := fun z => e z.symm
      by_cases h : j ∈ vs
      · rw [if_pos h, if_pos (List.mem_cons_of_mem _ h)]
      · rw [if_neg h, if_neg (by simp [h, e'])]
theorem SR.wipe {K : PySem.W.Frag} {p : Pn} {Hd H : Hp} {σ : St} {Γ : List Sk} (s : SR K p Hd H σ Γ) (vs : List Nat) : SR K p Hd H (L2.wipe σ vs) (wipeG Γ vs) :=
  s.weak (by rw [wipe_length, wipeG_length, s.len]) fun i k h => by
    rw [wipeG_at] at h
    rw [wipe_at]
    by_cases e : i ∈ vs
    · rw [if_pos e] at h
      cases q : Γ[i]? with
      | none => rw [q] at h; simp at h
      | some _ => rw [q] at h; simp at h; exact .inl h.symm
    · rw [if_neg e] at h ⊢
      exact .inr ⟨h, rfl⟩
theorem wipe_eq {σ σ' : St} {vs is : List Nat} (h : ∀ j, j ∉ is → σ'[j]? = (wipe σ vs)[j]?) (hl : σ'.length = σ.length) (hs : ∀ j ∈ is, j ∈ vs) : wipe σ' vs = wipe σ vs := by
  apply List.ext_getElem?
  intro j
  rw [wipe_at, wipe_at]
  by_cases e : j ∈ vs
  · rw [if_pos e, if_pos e]
    by_cases q : j < σ.length
    · rw [List.getElem?_eq_getElem q, List.getElem?_eq_getElem (by rw [hl]; exact q)]; rfl
    · rw [List.getElem?_eq_none (show σ'.length ≤ j by omega), List.getElem?_eq_none (show σ.length ≤ j by omega)]
  · rw [if_neg e, if_neg e, h j (fun z => e (hs j z)), wipe_at, if_neg e]

/-! ### what is walked -/
def ItD (K : PySem.W.Frag) (Hd : Hp) (J : It) (ds : List D) : Prop := ∀ Hd' H', Same Hd Hd' → Same Hd' H' →
  (∀ i, i < ds.length → J.go i H') ∧ (∀ i, ds.length ≤ i → J.stop i H') ∧ (∀ i x H'', J.yld i H' x H'' → ∀ d, ds[i]? = some d → ∃ Hd'', Grow none Hd' H' Hd'' H'' ∧ Rep K Hd'' x d)
theorem ItD.mono {K : PySem.W.Frag} {Hd Hd' : Hp} {J : It} {ds : List D} (h : ItD K Hd J ds) (s : Same Hd Hd') : ItD K Hd' J ds := fun a b e1 e2 => h a b (s.trans e1) e2
def EvI (c : Ct) (wi : TI) (Γ : List Sk) (m : Nat) (ψ : List D → Prop) : Prop := ∀ σ Hd H n, SR c.K c.p Hd H σ Γ → Same Hd H → PenO c.p n Hd H → n + m ≤ LIM → Xs c Hd H → ∀ R : It → Hp → Prop,
  (∀ J ds Hd' H', Grow c.p.a Hd H Hd' H' → PenO c.p (n + m) Hd' H' → ψ ds → ItD c.K Hd' J ds → R J H') → wi σ H R
theorem EvI.imp {c : Ct} {wi : TI} {Γ : List Sk} {m : Nat} {ψ ψ' : List D → Prop} (h : EvI c wi Γ m ψ) (e : ∀ ds, ψ ds → ψ' ds) : EvI c wi Γ m ψ' := fun σ Hd H n s sa pe l x R q => h σ Hd H n s sa pe l x R fun J ds Hd' H' g pe' f => q J ds Hd' H' g pe' (e ds f)
theorem itd_list {K : PySem.W.Frag} {Hd : Hp} {a : Addr} {xs : List V} {ds : List D} (h : Hd a = some (.lst xs)) (r : Reps K Hd xs ds) : ItD K Hd (Itl K a) ds := fun Hd' H' e1 e2 => by
  have h' : SqL K H' a xs := SqL.of (e2 _ _ (e1 _ _ h))
  have hl := r.length
  refine ⟨fun i hi => ⟨xs, xs[i], h', by simp [hl, hi]⟩, fun i hi => ⟨xs, h', by omega⟩, fun i x H'' y d hd => ?_⟩
  obtain ⟨e, y⟩ := y
  subst e
  have q := y xs h'
  obtain ⟨v, q1, q2⟩ := (r.mono e1).get hd
  rw [q] at q1; cases q1
  exact ⟨Hd', .refl e2, q2⟩
theorem itd_tup {K : PySem.W.Frag} {Hd : Hp} {a : Addr} {xs : List V} {ds : List D} (h : SqT K Hd a xs) (r : Reps K Hd xs ds) : ItD K Hd (Itt K a) ds := fun Hd' H' e1 e2 => by
  have h' : SqT K H' a xs := same_sqt (e1.trans e2) h
  have hl := r.length
  refine ⟨fun i hi => ⟨xs, xs[i], h', by simp [hl, hi]⟩, fun i hi => ⟨xs, h', by omega⟩, fun i x H'' y d hd => ?_⟩
  obtain ⟨e, y⟩ := y
  subst e
  have q := y xs h'
  obtain ⟨v, q1, q2⟩ := (r.mono e1).get hd
  rw [q] at q1; cases q1
  exact ⟨Hd', .refl e2, q2⟩
def signs (x : Str) : List D := x.cps.toList.map fun c => .str ⟨#[c]⟩
theorem itd_str {K : PySem.W.Frag} {Hd : Hp} (x : Str) : ItD K Hd (Its x) (signs x) := fun Hd' H' e1 e2 => by
  have hl : (signs x).length = x.cps.size := by simp [signs]
  refine ⟨fun i hi => by show i < x.cps.size; omega, fun i hi => by show x.cps.size ≤ i; omega, fun i v H'' y d hd => ?_⟩
  obtain ⟨e, q, h1, h2⟩ := y
  subst e; subst h2
  have z : d = .str ⟨#[q]⟩ := by
    unfold signs at hd
    rw [List.getElem?_map, Array.getElem?_toList, h1] at hd
    simpa using hd.symm
  subst z
  exact ⟨Hd', .refl e2, .str _⟩
def rngD (lo : Int) (n : Nat) : List D := (List.range n).map fun (i : Nat) => .int (lo + (i : Int))
theorem itd_rng {K : PySem.W.Frag} {Hd : Hp} (lo : Int) (n : Nat) : ItD K Hd (Itr lo n) (rngD lo n) := fun Hd' H' e1 e2 => by
  have hl : (rngD lo n).length = n := by simp [rngD]
  refine ⟨fun i hi => by show i < n; omega, fun i hi => by show n ≤ i; omega, fun i v H'' y d hd => ?_⟩
  obtain ⟨e, h2⟩ := y
  subst e; subst h2
  have z : d = .int (lo + (i : Int)) := by
    unfold rngD at hd
    rw [List.getElem?_map] at hd
    by_cases q : i < n
    · rw [List.getElem?_range q] at hd; simpa using hd.symm
    · rw [List.getElem?_eq_none (by simp; omega)] at hd; simp at hd
  subst z
  exact ⟨Hd', .refl e2, .int _⟩
def enumD (ds : List D) : List D := ds.zipIdx.map fun p => .tup [.int (p.2 : Int), p.1]
theorem enumD_get {ds : List D} {i : Nat} {d : D} (h : (enumD ds)[i]? = some d) : ∃ e, ds[i]? = some e ∧ d = .tup [.int (i : Int), e] := by
  unfold enumD at h
  rw [List.getElem?_map, List.getElem?_zipIdx] at h
  cases q : ds[i]? with
  | none => rw [q] at h; simp at h
  | some e => rw [q] at h; simp at h; exact ⟨e, rfl, h.symm⟩
theorem itd_enum {K : PySem.W.Frag} {Hd : Hp} {a : Addr} {xs : List V} {ds : List D} (h : Hd a = some (.lst xs)) (r : Reps K Hd xs ds) : ItD K Hd (Ite K a) (enumD ds) := fun Hd' H' e1 e2 => by
  have h' : SqL K H' a xs := SqL.of (e2 _ _ (e1 _ _ h))
  have hl := r.length
  have hl2 : (enumD ds).length = ds.length := by simp [enumD]
  refine ⟨fun i hi => ⟨xs, xs[i]'(by omega), h', List.getElem?_eq_getElem _⟩, fun i hi => ⟨xs, h', by omega⟩, fun i v H'' y d hd => ?_⟩
  obtain ⟨T, x, e, hT, eH, y⟩ := y
  subst e; subst eH
  obtain ⟨e, q1, q2⟩ := enumD_get hd
  subst q2
  obtain ⟨w, q3, q4⟩ := (r.mono e1).get q1
  have q := y xs h'
  rw [q] at q3; cases q3
  have g := Grow.new (p := none) (o := HO.tup [.int (i : Nat), x]) e2 hT
  exact ⟨_, g, .tup (SqT.of upd_same) (.cons (.int _) (.cons (q4.mono g.d) .nil))⟩
def zipD (ds es : List D) : List D := (ds.zip es).map fun p => .tup [p.1, p.2]
theorem zipD_get {ds es : List D} {i : Nat} {d : D} (h : (zipD ds es)[i]? = some d) : ∃ a b, ds[i]? = some a ∧ es[i]? = some b ∧ d = .tup [a, b] := by
  unfold zipD at h
  rw [List.getElem?_map] at h
  cases q : (ds.zip es)[i]? with
  | none => rw [q] at h; simp at h
  | some e =>
    rw [q] at h; simp at h
    rw [List.getElem?_zip_eq_some] at q
    exact ⟨_, _, q.1, q.2, h.symm⟩
theorem itd_zip {K : PySem.W.Frag} {Hd : Hp} {a b : Addr} {xs ys : List V} {ds es : List D} (h : Hd a = some (.lst xs)) (r : Reps K Hd xs ds) (h2 : Hd b = some (.lst ys)) (r2 : Reps K Hd ys es) : ItD K Hd (Itz K a b) (zipD ds es) := fun Hd' H' e1 e2 => by
  have h' : SqL K H' a xs := SqL.of (e2 _ _ (e1 _ _ h))
  have h2' : SqL K H' b ys := SqL.of (e2 _ _ (e1 _ _ h2))
  have hl := r.length
  have hl2 := r2.length
  have hz : (zipD ds es).length = min ds.length es.length := by simp [zipD]
  refine ⟨fun i hi => ⟨xs, ys, xs[i]'(by omega), ys[i]'(by omega), h', h2', List.getElem?_eq_getElem _, List.getElem?_eq_getElem _⟩, fun i hi => ⟨xs, ys, h', h2', by omega⟩, fun i v H'' y d hd => ?_⟩
  obtain ⟨T, x, x2, e, hT, eH, y, y2⟩ := y
  subst e; subst eH
  obtain ⟨u1, u2, q1, p1, q2⟩ := zipD_get hd
  subst q2
  obtain ⟨w, q3, q4⟩ := (r.mono e1).get q1
  obtain ⟨w2, p3, p4⟩ := (r2.mono e1).get p1
  have q := y xs h'
  have q' := y2 ys h2'
  rw [q] at q3; cases q3
  rw [q'] at p3; cases p3
  have g := Grow.new (p := none) (o := HO.tup [x, x2]) e2 hT
  exact ⟨_, g, .tup (SqT.of upd_same) (.cons (q4.mono g.d) (.cons (p4.mono g.d) .nil))⟩

section
variable {c : Ct} {Γ : List Sk} {m m1 m2 : Nat} {φ : D → Prop} {te : TE} {ta : TA}
/-- over a list, a tuple, a text, by the value -/
def iSeq (K : PySem.W.Frag) (tl : TE) : TI := fun σ H R => tl σ H fun x H1 => (∃ a, x = .ref a ∧ (∃ xs, SqL K H1 a xs) ∧ R (Itl K a) H1) ∨ (∃ a, x = .ref a ∧ (∃ xs, SqT K H1 a xs) ∧ R (Itt K a) H1) ∨ ∃ z, x = .str z ∧ R (Its z) H1
theorem pi_seq {X : Cx} {tg l : Expr} {tl : TE} (hl : PE X l tl) : PI X tg l (iSeq X.K tl) := by
  refine ⟨fun pins s0 σ0 Hp0 Rr Iv hw => ?_⟩
  refine thn (hl.run pins s0 σ0 Hp0 _ Iv hw) fun u st hh => ?_
  obtain ⟨x, Hx, Ix, rx, qx⟩ := hh
  rcases qx with ⟨a, ex, ⟨xs, hxs⟩, qx⟩ | ⟨a, ex, ⟨xs, hxs⟩, qx⟩ | ⟨z, ex, qx⟩
  · subst ex; cases rx
    obtain ⟨us, _, pl, _⟩ := Ix.list hxs
    exact wpAny_pyIter_list pl.isList (pi_one (tk := st.toks) Ix _ (turn_list a _) ⟨_, Heap.get?_push_size _ rfl, rfl, rfl⟩ qx)
  · subst ex; cases rx
    obtain ⟨us, _, pl, _⟩ := Ix.tuple hxs
    exact wpAny_pyIter_tuple (show st.heap.IsTuple a us.toArray from pl) (pi_one (tk := st.toks) Ix _ (turn_tuple a _) ⟨_, Heap.get?_push_size _ rfl, rfl, rfl⟩ qx)
  · subst ex
    obtain ⟨tk, rfl⟩ := rx
    cases low : z.cps.all (· < 128) with
    | false => exact wpAny_pyIter_wide low (pi_one (tk := st.toks) Ix _ (turn_str _ z tk "str_iterator" (.inr rfl)) ⟨_, Heap.get?_push_size _ rfl, rfl, rfl⟩ qx)
    | true => exact wpAny_pyIter_ascii low (pi_one (tk := st.toks) Ix _ (turn_str _ z tk "str_ascii_iterator" (.inl rfl)) ⟨_, Heap.get?_push_size _ rfl, rfl, rfl⟩ qx)
/-- what may be walked, as data -/
def itemsOf : D → Option (List D)
  | .lst ds => some ds
  | .tup ds => some ds
  | .str z => some (signs z)
  | _ => none
theorem ei_seq {ψ : List D → Prop} (h : Ev c te Γ m (fun d => ∃ ds, itemsOf d = some ds ∧ ψ ds)) : EvI c (iSeq c.K te) Γ m ψ := fun σ Hd H n s sa pe l x R q =>
  h σ Hd H n s sa pe l x _ fun v d Hd1 H1 g1 pe1 ⟨ds, e, f⟩ r1 => by
    cases r1 with
    | lst h1 r =>
      cases e
      exact .inl ⟨_, rfl, ⟨_, SqL.of (g1.s _ _ h1)⟩, q _ _ Hd1 H1 g1 pe1 f (itd_list h1 r)⟩
    | tup h1 r =>
      cases e
      exact .inr (.inl ⟨_, rfl, ⟨_, same_sqt g1.s h1⟩, q _ _ Hd1 H1 g1 pe1 f (itd_tup h1 r)⟩)
    | str z =>
      cases e
      exact .inr (.inr ⟨z, rfl, q _ _ Hd1 H1 g1 pe1 f (itd_str z)⟩)
    | _ => cases e
theorem ei_seq_ {d : D} {ds : List D} (h : Ev c te Γ m (· = d)) (e : itemsOf d = some ds) : EvI c (iSeq c.K te) Γ m (· = ds) := ei_seq (h.imp fun _ q => ⟨ds, by rw [q]; exact e, rfl⟩)
theorem ei_rng1 {ι : Int → Prop} (h : EvA c ta Γ m (fun ds => ∃ n, ds = [.int n] ∧ ι n)) (b : ∀ n, ι n → -(2 ^ 62) ≤ n ∧ n < 2 ^ 62) : EvI c (iRng1 ta) Γ m (fun ds => ∃ n, ι n ∧ ds = rngD 0 n.toNat) := fun σ Hd H n s sa pe l x R q =>
  h σ Hd H n s sa pe l x _ fun vs ds Hd1 H1 g1 pe1 ⟨n, e, f⟩ r1 => by
    subst e
    cases r1 with | cons a r => cases r; cases a; exact ⟨n, rfl, (b n f).1, (b n f).2, q _ _ Hd1 H1 g1 pe1 ⟨n, f, rfl⟩ (itd_rng 0 n.toNat)⟩
theorem ei_rng1_ {n : Int} (h : EvA c ta Γ m (· = [.int n])) (b : -(2 ^ 62) ≤ n ∧ n < 2 ^ 62 := by decide) : EvI c (iRng1 ta) Γ m (· = rngD 0 n.toNat) := (ei_rng1 (ι := (· = n)) (h.imp fun _ e => ⟨n, e, rfl⟩) fun _ e => e ▸ b).imp fun ds ⟨k, e, q⟩ => by rw [q, e]
theorem ei_rng2_ {i n : Int} (h : EvA c ta Γ m (· = [.int i, .int n])) (b : -(2 ^ 62) ≤ i ∧ i < 2 ^ 62 ∧ -(2 ^ 62) ≤ n ∧ n < 2 ^ 62 := by decide) : EvI c (iRng2 ta) Γ m (· = rngD i (n - i).toNat) := fun σ Hd H n' s sa pe l x R q =>
  h σ Hd H n' s sa pe l x _ fun vs ds Hd1 H1 g1 pe1 e r1 => by
    subst e
    cases r1 with | cons a r => cases r with | cons a' r => cases r; cases a; cases a'; exact ⟨i, n, rfl, b, q _ _ Hd1 H1 g1 pe1 rfl (itd_rng i _)⟩
theorem ei_enum {ψ : List D → Prop} (h : EvA c ta Γ m (fun as => ∃ ds, as = [.lst ds] ∧ ψ ds)) : EvI c (iEnum c.K ta) Γ m (fun es => ∃ ds, ψ ds ∧ es = enumD ds) := fun σ Hd H n s sa pe l x R q =>
  h σ Hd H n s sa pe l x _ fun vs as Hd1 H1 g1 pe1 ⟨ds, e, f⟩ r1 => by
    subst e
    cases r1 with | cons a r => cases r; cases a with | lst h1 r => exact ⟨_, _, rfl, SqL.of (g1.s _ _ h1), q _ _ Hd1 H1 g1 pe1 ⟨ds, f, rfl⟩ (itd_enum h1 r)⟩
theorem ei_enum_ {ds : List D} (h : EvA c ta Γ m (· = [.lst ds])) : EvI c (iEnum c.K ta) Γ m (· = enumD ds) := (ei_enum (ψ := (· = ds)) (h.imp fun _ e => ⟨ds, e, rfl⟩)).imp fun _ ⟨k, e, q⟩ => by rw [q, e]
theorem ei_zip_ {ds es : List D} (h : EvA c ta Γ m (· = [.lst ds, .lst es])) : EvI c (iZip c.K ta) Γ m (· = zipD ds es) := fun σ Hd H n s sa pe l x R q =>
  h σ Hd H n s sa pe l x _ fun vs as Hd1 H1 g1 pe1 e r1 => by
    subst e
    cases r1 with | cons a r => cases r with | cons a' r => cases r; cases a with | lst h1 r => cases a' with | lst h2 r2 => exact ⟨_, _, _, _, rfl, SqL.of (g1.s _ _ h1), SqL.of (g1.s _ _ h2), q _ _ Hd1 H1 g1 pe1 rfl (itd_zip h1 r h2 r2)⟩

/-! ### targets -/
def TgD (c : Ct) (g : TG) (d : D) (ps : List (Nat × D)) : Prop := ∀ σ Hd H v Γ, SR c.K c.p Hd H σ Γ → Same Hd H → Rep c.K Hd v d → ∀ Q : St → Hp → Prop,
  (∀ σ', SR c.K c.p Hd H σ' (setD Γ ps) → σ'.length = σ.length → (∀ j, j ∉ ps.map (·.1) → σ'[j]? = σ[j]?) → Q σ' H) → g v σ H Q
theorem tg_name {i : Nat} {d : D} : TgD c (gName i) d [(i, d)] := fun σ Hd H v Γ s sa r Q q =>
  q _ (s.set (i := i) (o := some v) (k := .dat d) ⟨v, rfl, r⟩ rfl) (by rw [List.length_set]) fun j hj => by
    rw [List.getElem?_set_ne]
    intro e; subst e; simp at hj
def TgDs (c : Ct) (g : TGs) (ds : List D) (ps : List (Nat × D)) : Prop := ∀ σ Hd H vs Γ, SR c.K c.p Hd H σ Γ → Same Hd H → Reps c.K Hd vs ds → ∀ Q : St → Hp → Prop,
  (∀ σ', SR c.K c.p Hd H σ' (setD Γ ps) → σ'.length = σ.length → (∀ j, j ∉ ps.map (·.1) → σ'[j]? = σ[j]?) → Q σ' H) → g vs σ H Q
theorem setD_append (Γ : List Sk) (ps qs : List (Nat × D)) : setD Γ (ps ++ qs) = setD (setD Γ ps) qs := by
  induction ps generalizing Γ with
  | nil => rfl
  | cons p ps ih => obtain ⟨i, d⟩ := p; exact ih _
theorem tgs_nil : TgDs c gNil [] [] := fun σ Hd H vs Γ s sa r Q q => by cases r; exact ⟨rfl, q σ s rfl fun _ _ => rfl⟩
theorem tgs_cons {g : TG} {gs : TGs} {d : D} {ds : List D} {ps qs : List (Nat × D)} (h1 : TgD c g d ps) (h2 : TgDs c gs ds qs) : TgDs c (gCons g gs) (d :: ds) (ps ++ qs) := fun σ Hd H vs Γ s sa r Q q => by
  cases r with
  | cons a r =>
    refine ⟨_, _, rfl, h1 σ Hd H _ Γ s sa a _ fun σ1 s1 l1 k1 => h2 σ1 Hd H _ _ s1 sa r _ fun σ2 s2 l2 k2 => q σ2 (by rw [setD_append]; exact s2) (l2.trans l1) fun j hj => ?_⟩
    rw [List.map_append, List.mem_append, not_or] at hj
    rw [k2 j hj.2, k1 j hj.1]
theorem tg_tup {gs : TGs} {ds : List D} {ps : List (Nat × D)} {n : Nat} (h : TgDs c gs ds ps) (hn : ds.length = n := by rfl) : TgD c (gTup c.K n gs) (.tup ds) ps := fun σ Hd H v Γ s sa r Q q => by
  cases r with
  | tup h1 r => exact ⟨_, _, rfl, same_sqt sa h1, by rw [r.length, hn], h σ Hd H _ Γ s sa r Q q⟩
end
end DL
set_option maxRecDepth 100000
set_option maxHeartbeats 4000000
/-! DL4: comprehensions; the state of a body (Ok), EvM, statements (Wp). -/
namespace DL
open PySem L2

/-! ### comprehensions -/
inductive Cmp (T : D → Bool → Prop) (F : D → D → Prop) : List D → List D → Prop
  | nil : Cmp T F [] []
  | skip {d ds es} : T d false → Cmp T F ds es → Cmp T F (ds ++ [d]) es
  | take {d e ds es} : T d true → F d e → Cmp T F ds es → Cmp T F (ds ++ [d]) (es ++ [e])
theorem Cmp.len {T : D → Bool → Prop} {F : D → D → Prop} {ds es : List D} (h : Cmp T F ds es) : es.length ≤ ds.length := by
  induction h with
  | nil => exact Nat.le_refl _
  | skip _ _ ih => simp; omega
  | take _ _ _ ih => simp; omega
theorem Cmp.exact {T : D → Bool → Prop} {F : D → D → Prop} {b : D → Bool} {f : D → D} {ds es : List D} (h : Cmp T F ds es) (hT : ∀ d k, T d k → k = b d) (hF : ∀ d e, F d e → e = f d) : es = (ds.filter b).map f := by
  induction h with
  | nil => rfl
  | skip t _ ih => rw [List.filter_append, List.map_append, ← ih]; simp [← hT _ _ t]
  | take t q _ ih => rw [List.filter_append, List.map_append, ← ih]; simp [← hT _ _ t, hF _ _ q]
theorem Cmp.all {T : D → Bool → Prop} {F : D → D → Prop} {φ : D → Prop} {ds es : List D} (h : Cmp T F ds es) (hF : ∀ d e, F d e → φ e) : ∀ e ∈ es, φ e := by
  induction h with
  | nil => simp
  | skip _ _ ih => exact ih
  | take _ q _ ih => intro e he; rcases List.mem_append.mp he with h | h
                     · exact ih e h
                     · rw [List.mem_singleton.mp h]; exact hF _ _ q
theorem Cmp.len_eq {T : D → Bool → Prop} {F : D → D → Prop} {ds es : List D} (h : Cmp T F ds es) (hT : ∀ d, ¬ T d false) : es.length = ds.length := by
  induction h with
  | nil => rfl
  | skip t _ _ => exact absurd t (hT _)
  | take _ _ _ ih => simp [ih]

section
variable {c : Ct} {Γ : List Sk} {m0 m m1 m2 L : Nat} {φ : D → Prop} {te : TE} {ta : TA} {wi : TI} {g : TG} {tt : TT}
theorem ev_lc {vs : List Nat} {ψ : List D → Prop} {T : D → Bool → Prop} {F : D → D → Prop} (hi : EvI c wi Γ m0 ψ) (hL : ∀ ds, ψ ds → ds.length ≤ L) (hz : L < 1000000)
    (h : ∀ ds, ψ ds → ∀ d ∈ ds, ∃ ps, TgD c g d ps ∧ (∀ j ∈ ps.map (·.1), j ∈ vs) ∧ EvB c tt (setD (wipeG Γ vs) ps) m1 (T d) ∧ (T d true → Ev c te (setD (wipeG Γ vs) ps) m2 (F d))) :
    Ev c (tLc wi g tt te vs) Γ (m0 + L * (m1 + m2)) (fun r => ∃ ds es, ψ ds ∧ Cmp T F ds es ∧ r = .lst es) := fun σ Hd H n s sa pe l x Q q => by
  have hLc : n + m0 ≤ LIM := by have := Nat.zero_le (L * (m1 + m2)); omega
  refine hi σ Hd H n s sa pe hLc x _ fun J ds Hd1 H1 g1 pe1 f J1 => fun Da hD => ?_
  have hl := hL ds f
  have nd1 : Hd1 Da = none := g1.s.free hD
  have npa : c.p.a ≠ some Da := fun z => by
    cases hp : c.p with
    | none => rw [hp] at z; cases z
    | some ac =>
      rw [hp] at z pe1
      have z' : ac.1 = Da := by simpa using z
      obtain ⟨⟨i, dg, ct, fd, e1, _⟩, _⟩ := pe1
      rw [z', hD] at e1; cases e1
  let Pv : Nat → Hp → Prop := fun i Hx => ∃ Hd2 acc es, Grow c.p.a Hd1 H1 Hd2 Hx ∧ Hx Da = some (.lst acc) ∧ Hd2 Da = none ∧ PenO c.p (n + m0 + i * (m1 + m2)) Hd2 Hx ∧ Reps c.K Hd2 acc es ∧ Cmp T F (ds.take i) es
  have key : ∀ i, i ≤ ds.length → i * (m1 + m2) ≤ L * (m1 + m2) := fun i hi => Nat.mul_le_mul_right _ (by omega)
  refine ⟨fun i m Hx => m = ds.length - i ∧ i ≤ ds.length ∧ Pv i Hx, ⟨ds.length, by simp, Nat.zero_le _, Hd1, [], [], Grow.loc g1.s hD, upd_same, nd1, ?_, .nil, .nil⟩, ?_⟩
  · have := pe1.write (b := Da) (o := .lst []) npa
    simpa using this
  rintro i m Hx ⟨rfl, hi, Hd2, acc, es, gx, hx, nd, px, rx, cx⟩
  obtain ⟨go, stop, yld⟩ := J1 Hd2 Hx gx.d gx.s
  by_cases hlt : i < ds.length
  · refine .inr ⟨go i hlt, Pv (i + 1), fun H' p' => ⟨ds.length - (i + 1), by omega, rfl, hlt, p'⟩, fun v Hy hy => ?_⟩
    have hd : ds[i]? = some ds[i] := by simp
    obtain ⟨Hd3, g3, r3⟩ := yld i v Hy hy _ hd
    obtain ⟨ps, tg, hps, hb, he⟩ := h ds f ds[i] (List.getElem_mem hlt)
    have gT : Grow c.p.a Hd H Hd3 Hy := ⟨(g1.d.trans gx.d).trans g3.d, fun b o ne e => g3.h b o (by simp) (gx.h b o ne (g1.h b o ne e)), g3.s, fun a ha na => g3.f a (gx.m a (g1.m a ha)) (gx.f a (g1.m a ha) (g1.f a ha na)), fun a ha => g3.m a (gx.m a (g1.m a ha))⟩
    have sT : SR c.K c.p Hd3 Hy (wipe σ vs) (wipeG Γ vs) := (s.grow gT).wipe vs
    refine tg _ Hd3 Hy v _ sT g3.s r3 _ fun σ2 s2 l2 k2 => ?_
    have l2' : σ2.length = σ.length := by rw [l2, wipe_length]
    refine ⟨wipe_eq k2 l2' hps, ?_⟩
    have p3 := px.grow g3
    have kk := key (i + 1) hlt
    have e1 : (i + 1) * (m1 + m2) = i * (m1 + m2) + (m1 + m2) := Nat.succ_mul _ _
    have hDy : Hy Da = some (.lst acc) := g3.h _ _ (by simp) hx
    have nd3 : Hd3 Da = none := g3.f _ (by rw [hx]; simp) nd
    refine hb σ2 Hd3 Hy _ s2 g3.s p3 (by omega) (x.grow gT) _ fun b Hd4 H4 g4 p4 t4 => ?_
    cases b with
    | true =>
      show te σ2 H4 _
      refine he t4 σ2 Hd4 H4 _ (s2.grow g4) g4.s p4 (by omega) (x.grow (gT.trans g4)) _ fun y d Hd5 H5 g5 p5 f5 r5 => ?_
      have g45 := g4.trans g5
      have hD5 : H5 Da = some (.lst acc) := g45.h _ _ npa hDy
      have nd5 : Hd5 Da = none := g45.f _ (by rw [hDy]; simp) nd3
      have hla : acc.length = es.length := rx.length
      have hle := cx.len
      refine ⟨acc, hD5, ?_, Hd5, acc ++ [y], es ++ [d], (gx.trans (g3.up.trans g45)).write hD nd5, upd_same, nd5, ?_, (rx.mono (g3.d.trans g45.d)).append (.cons r5 .nil), ?_⟩
      · rw [List.length_take] at hle
        rw [hla, sizeLine_eq]; omega
      · refine PenO.more (p5.write npa) (by omega)
      · rw [List.take_add_one, hd]; exact .take t4 f5 cx
    | false =>
      show Pv (i + 1) H4
      refine ⟨Hd4, acc, es, gx.trans (g3.up.trans g4), g4.h _ _ npa hDy, g4.f _ (by rw [hDy]; simp) nd3, PenO.more p4 (by omega), rx.mono (g3.d.trans g4.d), ?_⟩
      rw [List.take_add_one, hd]; exact .skip t4 cx
  · have e : i = ds.length := by omega
    subst e
    refine .inl ⟨stop _ (Nat.le_refl _), ?_⟩
    have kk := key _ (Nat.le_refl ds.length)
    rw [List.take_length] at cx
    have gf := (g1.trans gx)
    have gz : Grow c.p.a Hd H (upd Hd2 Da (.lst acc)) Hx := gf.freeze sa (g1.free hD) nd hx
    exact q (.ref Da) (.lst es) _ _ gz (PenO.more (px.freeze npa nd) (by omega)) ⟨ds, es, f, cx, rfl⟩ (.lst upd_same (rx.mono fun b u e => by rw [upd_ne (ne_of_none e nd)]; exact e))
/-- exact -/
theorem ev_lc_ {vs : List Nat} {ds : List D} {b : D → Bool} {f : D → D} (hi : EvI c wi Γ m0 (· = ds)) (hz : ds.length < 1000000)
    (h : ∀ d ∈ ds, ∃ ps, TgD c g d ps ∧ (∀ j ∈ ps.map (·.1), j ∈ vs) ∧ EvB c tt (setD (wipeG Γ vs) ps) 0 (· = b d) ∧ (b d = true → Ev c te (setD (wipeG Γ vs) ps) 0 (· = f d))) :
    Ev c (tLc wi g tt te vs) Γ m0 (· = .lst ((ds.filter b).map f)) := by
  have q := ev_lc (L := ds.length) (m1 := 0) (m2 := 0) (T := fun d k => k = b d) (F := fun d e => e = f d) hi (fun _ e => by rw [e]; exact Nat.le_refl _) hz fun ds' e d hd => by
    subst e
    obtain ⟨ps, h1, h2, h3, h4⟩ := h d hd
    exact ⟨ps, h1, h2, h3, fun z => h4 z.symm⟩
  rw [Nat.mul_zero, Nat.add_zero] at q
  refine q.imp fun r ⟨ds', es, e, k, z⟩ => ?_
  subst e
  rw [z, k.exact (fun _ _ q => q) fun _ _ q => q]
theorem eb_yes : EvB c tYes Γ 0 (· = true) := fun σ Hd H n s sa pe l x Q q => q true Hd H (.refl sa) pe rfl
theorem eb_yesG {β : Bool → Prop} (h : β true) : EvB c tYes Γ 0 β := fun σ Hd H n s sa pe l x Q q => q true Hd H (.refl sa) pe h
end

/-! ### the state within a body -/
structure Ok (c : Ct) (Hb Hd0 H0 : Hp) (σ : St) (Γ : List Sk) (Hd H : Hp) (n : Nat) : Prop where
  b : Same Hb Hd
  s0 : Same Hd0 H0
  g : Grow c.p.a Hd0 H0 Hd H
  sr : SR c.K c.p Hd H σ Γ
  pe : PenO c.p n Hd H
  fr : ∀ (i : Nat) k l, Γ[i]? = some k → k.isOwn = true → σ[i]? = some (some (.ref l)) → H0 l = none
section
variable {c : Ct} {Hb Hd0 H0 : Hp} {σ σ' : St} {Γ Γ' : List Sk} {Hd H Hd' H' : Hp} {n n' m : Nat} {i : Nat}
theorem Ok.grow (o : Ok c Hb Hd0 H0 σ Γ Hd H n) (g : Grow c.p.a Hd H Hd' H') (pe : PenO c.p n' Hd' H') : Ok c Hb Hd0 H0 σ Γ Hd' H' n' := ⟨o.b.trans g.d, o.s0, o.g.trans g, o.sr.grow g, pe, o.fr⟩
theorem Ok.more (o : Ok c Hb Hd0 H0 σ Γ Hd H n) (e : n ≤ n') : Ok c Hb Hd0 H0 σ Γ Hd H n' := ⟨o.b, o.s0, o.g, o.sr, o.pe.more e, o.fr⟩
/-- slots that own nothing are stored -/
theorem Ok.slots (o : Ok c Hb Hd0 H0 σ Γ Hd H n) (s : SR c.K c.p Hd H σ' Γ') (k : ∀ (i : Nat) (k : Sk), Γ'[i]? = some k → k.isOwn = true → Γ[i]? = some k ∧ σ'[i]? = σ[i]?) : Ok c Hb Hd0 H0 σ' Γ' Hd H n :=
  ⟨o.b, o.s0, o.g, s, o.pe, fun i q l h1 h2 h3 => by obtain ⟨a, b⟩ := k i q h1 h2; rw [b] at h3; exact o.fr i q l a h2 h3⟩
theorem Ok.set (o : Ok c Hb Hd0 H0 σ Γ Hd H n) {v : V} {d : D} (r : Rep c.K Hd v d) : Ok c Hb Hd0 H0 (σ.set i (some v)) (Γ.set i (.dat d)) Hd H n :=
  o.slots (o.sr.set ⟨v, rfl, r⟩ rfl) fun j k h1 h2 => by
    by_cases e : i = j
    · subst e
      by_cases hl : i < Γ.length
      · rw [List.getElem?_set_self hl] at h1; cases h1; cases h2
      · rw [List.getElem?_eq_none (by rw [List.length_set]; omega)] at h1; cases h1
    · rw [List.getElem?_set_ne e] at h1
      exact ⟨h1, List.getElem?_set_ne e⟩
theorem setD_own : ∀ {ps : List (Nat × D)} {Γ : List Sk} {i : Nat} {k : Sk}, (setD Γ ps)[i]? = some k → k.isOwn = true → Γ[i]? = some k ∧ i ∉ ps.map (·.1)
  | [], _, _, _, h, _ => ⟨h, by simp⟩
  | (j, d) :: ps, Γ, i, k, h, o => by
    obtain ⟨a, b⟩ := setD_own (ps := ps) (Γ := Γ.set j (.dat d)) h o
    have e : j ≠ i := fun e => by
      subst e
      by_cases hl : j < Γ.length
      · rw [List.getElem?_set_self hl] at a; cases a; cases o
      · rw [List.getElem?_eq_none (by rw [List.length_set]; omega)] at a; cases a
    rw [List.getElem?_set_ne e] at a
    exact ⟨a, by simp only [List.map_cons, List.mem_cons, not_or]; exact ⟨fun z => e z.symm, b⟩⟩
theorem Ok.tg (o : Ok c Hb Hd0 H0 σ Γ Hd H n) {ps : List (Nat × D)} (s : SR c.K c.p Hd H σ' (setD Γ ps)) (k : ∀ j, j ∉ ps.map (·.1) → σ'[j]? = σ[j]?) : Ok c Hb Hd0 H0 σ' (setD Γ ps) Hd H n :=
  o.slots s fun j q h1 h2 => by obtain ⟨a, b⟩ := setD_own h1 h2; exact ⟨a, k j b⟩
theorem Pn.ne_of {p : Pn} {b : Addr} {n : Nat} {Hd H : Hp} (pe : PenO p n Hd H) (h : H b = none) : p.a ≠ some b := fun z => by
  cases p with
  | none => cases z
  | some ac =>
    have z' : ac.1 = b := by simpa using z
    obtain ⟨⟨i, dg, ct, fd, e1, _⟩, _⟩ := pe
    rw [z', h] at e1; cases e1
/-- a new local list -/
theorem Ok.newOwn (o : Ok c Hb Hd0 H0 σ Γ Hd H n) {a : Addr} {vs : List V} {ds : List D} (h : H a = none) (r : Reps c.K Hd vs ds) : Ok c Hb Hd0 H0 (σ.set i (some (.ref a))) (Γ.set i (.own ds)) Hd (upd H a (.lst vs)) n := by
  have ne := Pn.ne_of o.pe h
  have g := Grow.loc (p := c.p.a) (o := HO.lst vs) o.g.s h
  have hd : Hd a = none := o.g.s.free h
  have nu : ∀ (j : Nat) k l, Γ[j]? = some k → k.isOwn = true → σ[j]? = some (some (.ref l)) → l ≠ a := fun j k l h1 h2 h3 z => by
    subst z
    have q := o.sr.ok j _ k h3 h1
    cases k with
    | own _ => obtain ⟨l', vs', e, e2, _⟩ := q; cases e; rw [h] at e2; cases e2
    | odk _ _ => obtain ⟨l', vs', e, e2, _⟩ := q; cases e; rw [h] at e2; cases e2
    | slf _ _ _ _ _ => obtain ⟨l', vs', e, e2, _⟩ := q; cases e; rw [h] at e2; cases e2
    | _ => cases h2
  have sg := o.sr.grow g
  refine ⟨o.b, o.s0, o.g.trans g, ⟨?_, fun j o' k h1 h2 => ?_, fun j j' k1 k2 l nj h1 o1 h2 o2 e1 e2 => ?_⟩, o.pe.write ne, fun j k l h1 h2 h3 => ?_⟩
  · rw [List.length_set, List.length_set]; exact o.sr.len
  · by_cases e : i = j
    · subst e
      by_cases hl : i < Γ.length
      · rw [List.getElem?_set_self hl] at h2; cases h2
        rw [List.getElem?_set_self (by rw [o.sr.len]; exact hl)] at h1; cases h1
        exact ⟨a, vs, rfl, upd_same, hd, r, ne⟩
      · rw [List.getElem?_eq_none (by rw [List.length_set]; omega)] at h2; cases h2
    · rw [List.getElem?_set_ne e] at h1 h2
      exact sg.ok j _ _ h1 h2
  · by_cases a1 : i = j
    · subst a1
      have a2 : i ≠ j' := nj
      rw [List.getElem?_set_ne a2] at h2 e2
      have hl : i < σ.length := by
        have := (List.getElem?_eq_some_iff.mp e1).1
        rwa [List.length_set] at this
      rw [List.getElem?_set_self hl] at e1; cases e1
      exact nu j' k2 _ h2 o2 e2 rfl
    · rw [List.getElem?_set_ne a1] at h1 e1
      by_cases a2 : i = j'
      · subst a2
        have hl : i < σ.length := by
          have := (List.getElem?_eq_some_iff.mp e2).1
          rwa [List.length_set] at this
        rw [List.getElem?_set_self hl] at e2; cases e2
        exact nu j k1 _ h1 o1 e1 rfl
      · rw [List.getElem?_set_ne a2] at h2 e2
        exact o.sr.ap j j' k1 k2 l nj h1 o1 h2 o2 e1 e2
  · by_cases e : i = j
    · subst e
      have hl : i < σ.length := by
        have := (List.getElem?_eq_some_iff.mp h3).1
        rwa [List.length_set] at this
      rw [List.getElem?_set_self hl] at h3; cases h3
      exact o.g.free h
    · rw [List.getElem?_set_ne e] at h1 h3
      exact o.fr j k l h1 h2 h3
/-- a local list is written -/
theorem Ok.writeOwn (o : Ok c Hb Hd0 H0 σ Γ Hd H n) {l : Addr} {ds es : List D} {vs : List V} (hi : Γ[i]? = some (.own ds)) (hs : σ[i]? = some (some (.ref l))) (r : Reps c.K Hd vs es) : Ok c Hb Hd0 H0 σ (Γ.set i (.own es)) Hd (upd H l (.lst vs)) n := by
  obtain ⟨l', ws, e, h1, h2, h3, ne⟩ := o.sr.ok i _ _ hs hi
  cases e
  have hl : i < Γ.length := (List.getElem?_eq_some_iff.mp hi).1
  have f0 := o.fr i _ _ hi rfl hs
  refine ⟨o.b, o.s0, o.g.write f0 h2, ⟨by rw [List.length_set]; exact o.sr.len, fun j o' k q1 q2 => ?_, fun j j' k1 k2 b nj q1 o1 q2 o2 e1 e2 => ?_⟩, o.pe.write ne, fun j k b q1 o1 q3 => ?_⟩
  · by_cases e : i = j
    · subst e
      rw [List.getElem?_set_self hl] at q2; cases q2
      rw [hs] at q1; cases q1
      exact ⟨l, vs, rfl, upd_same, h2, r, ne⟩
    · rw [List.getElem?_set_ne e] at q2
      have old := o.sr.ok j _ _ q1 q2
      cases k with
      | own _ =>
        obtain ⟨l2, w2, e2, b1, b2⟩ := old
        subst e2
        have nl : l2 ≠ l := fun z => by subst z; exact o.sr.ap i j _ _ _ e hi rfl q2 rfl hs q1
        exact ⟨l2, w2, rfl, by rw [upd_ne nl]; exact b1, b2⟩
      | odk _ _ =>
        obtain ⟨l2, w2, e2, b1, b2⟩ := old
        subst e2
        have nl : l2 ≠ l := fun z => by subst z; exact o.sr.ap i j _ _ _ e hi rfl q2 rfl hs q1
        exact ⟨l2, w2, rfl, by rw [upd_ne nl]; exact b1, b2⟩
      | slf _ _ _ _ _ =>
        obtain ⟨l2, w2, e2, b1, b2⟩ := old
        subst e2
        have nl : l2 ≠ l := fun z => by subst z; exact o.sr.ap i j _ _ _ e hi rfl q2 rfl hs q1
        exact ⟨l2, w2, rfl, by rw [upd_ne nl]; exact b1, b2⟩
      | _ => exact old
  · have back : ∀ {j : Nat} {k : Sk}, (Γ.set i (.own es))[j]? = some k → k.isOwn = true → ∃ k', Γ[j]? = some k' ∧ k'.isOwn = true := fun {j k} q oq => by
      by_cases e : i = j
      · subst e; exact ⟨_, hi, rfl⟩
      · rw [List.getElem?_set_ne e] at q; exact ⟨_, q, oq⟩
    obtain ⟨k1', a1, b1⟩ := back q1 o1
    obtain ⟨k2', a2, b2⟩ := back q2 o2
    exact o.sr.ap j j' k1' k2' b nj a1 b1 a2 b2 e1 e2
  · by_cases e : i = j
    · subst e
      exact o.fr i _ b hi rfl q3
    · rw [List.getElem?_set_ne e] at q1
      exact o.fr j k b q1 o1 q3
/-- a local list becomes data -/
theorem Ok.freeze (o : Ok c Hb Hd0 H0 σ Γ Hd H n) {ds : List D} (hi : Γ[i]? = some (.own ds)) : ∃ l vs, σ[i]? = some (some (.ref l)) ∧ H l = some (.lst vs) ∧ Hd l = none ∧ Reps c.K Hd vs ds ∧ c.p.a ≠ some l ∧ Ok c Hb Hd0 H0 σ (Γ.set i (.dat (.lst ds))) (upd Hd l (.lst vs)) H n := by
  obtain ⟨o', hs, l, vs, e, h1, h2, h3, ne⟩ := o.sr.get hi
  subst e
  have hl : i < Γ.length := (List.getElem?_eq_some_iff.mp hi).1
  have f0 := o.fr i _ _ hi rfl hs
  have mo : Same Hd (upd Hd l (.lst vs)) := fun b u e => by rw [upd_ne (ne_of_none e h2)]; exact e
  have keepO : ∀ {j : Nat} {k : Sk}, (Γ.set i (.dat (.lst ds)))[j]? = some k → k.isOwn = true → i ≠ j ∧ Γ[j]? = some k := fun {j k} q oq => by
    by_cases e : i = j
    · subst e; rw [List.getElem?_set_self hl] at q; cases q; cases oq
    · rw [List.getElem?_set_ne e] at q; exact ⟨e, q⟩
  refine ⟨l, vs, hs, h1, h2, h3, ne, o.b.trans mo, o.s0, o.g.freeze o.s0 f0 h2 h1, ⟨by rw [List.length_set]; exact o.sr.len, fun j o2 k q1 q2 => ?_, fun j j' k1 k2 b nj q1 o1 q2 o2 e1 e2 => ?_⟩, o.pe.freeze ne h2, fun j k b q1 o1 q3 => o.fr j k b (keepO q1 o1).2 o1 q3⟩
  · by_cases e : i = j
    · subst e
      rw [List.getElem?_set_self hl] at q2; cases q2
      rw [hs] at q1; cases q1
      exact ⟨_, rfl, .lst upd_same (h3.mono mo)⟩
    · rw [List.getElem?_set_ne e] at q2
      have old := o.sr.ok j _ _ q1 q2
      cases k with
      | un => exact True.intro
      | dat d => obtain ⟨v, e1, e2⟩ := old; exact ⟨v, e1, e2.mono mo⟩
      | own _ =>
        obtain ⟨l2, w2, e2, b1, b2, b3, b4⟩ := old
        subst e2
        have nl : l2 ≠ l := fun z => by subst z; exact o.sr.ap i j _ _ _ e hi rfl q2 rfl hs q1
        exact ⟨l2, w2, rfl, b1, by rw [upd_ne nl]; exact b2, b3.mono mo, b4⟩
      | odk _ _ =>
        obtain ⟨l2, w2, e2, b1, bl, b2, b3, b4⟩ := old
        subst e2
        have nl : l2 ≠ l := fun z => by subst z; exact o.sr.ap i j _ _ _ e hi rfl q2 rfl hs q1
        exact ⟨l2, w2, rfl, b1, bl, by rw [upd_ne nl]; exact b2, b3.mono mo, b4⟩
      | slf _ _ _ _ _ =>
        obtain ⟨l2, w2, e2, b1, bl, b2, b3, b4⟩ := old
        subst e2
        have nl : l2 ≠ l := fun z => by subst z; exact o.sr.ap i j _ _ _ e hi rfl q2 rfl hs q1
        exact ⟨l2, w2, rfl, b1, bl, by rw [upd_ne nl]; exact b2, b3.mono mo, b4⟩
      | pen => exact old
  · exact o.sr.ap j j' k1 k2 b nj (keepO q1 o1).2 o1 (keepO q2 o2).2 o2 e1 e2
end
end DL
set_option maxRecDepth 100000
set_option maxHeartbeats 4000000
/-! DL5: EvM, statements, calls, promises. -/
namespace DL
open PySem L2

/-- an expression in a body: owned slots may change -/
def EvM (c : Ct) (te : TE) (Γ : List Sk) (m : Nat) (Φ : D → List Sk → Prop) : Prop := ∀ Hb Hd0 H0 σ Hd H n, Ok c Hb Hd0 H0 σ Γ Hd H n → n + m ≤ LIM → Xs c Hd0 H0 → ∀ Q : VK,
  (∀ v d Γ' Hd' H', Φ d Γ' → Ok c Hb Hd0 H0 σ Γ' Hd' H' (n + m) → Rep c.K Hd' v d → Q v H') → te σ H Q
structure Wh where
  N : List Sk → Prop
  R : D → Prop
  B : List Sk → Prop := fun _ => False
  C : List Sk → Prop := fun _ => False
def Wp (c : Ct) (t : TS) (Γ : List Sk) (m : Nat) (W : Wh) : Prop := ∀ Hb Hd0 H0 σ Hd H n, Ok c Hb Hd0 H0 σ Γ Hd H n → n + m ≤ LIM → Xs c Hd0 H0 → ∀ E : Ends,
  (∀ Γ' σ' Hd' H', W.N Γ' → Ok c Hb Hd0 H0 σ' Γ' Hd' H' (n + m) → E.nx σ' H') →
  (∀ Γ' σ' Hd' H', W.B Γ' → Ok c Hb Hd0 H0 σ' Γ' Hd' H' (n + m) → E.bk σ' H') →
  (∀ Γ' σ' Hd' H', W.C Γ' → Ok c Hb Hd0 H0 σ' Γ' Hd' H' (n + m) → E.ct σ' H') →
  (∀ v d Hd' H', W.R d → Grow c.p.a Hd0 H0 Hd' H' → PenO c.p (n + m) Hd' H' → Rep c.K Hd' v d → E.rt v H') → t E σ H
/-- at the end: everything is told -/
abbrev retW (R : D → Prop) : Wh := { N := fun _ => R .non, R := R }

section
variable {c : Ct} {Γ : List Sk} {m m0 m1 m2 m3 L : Nat} {φ φ1 ψ : D → Prop} {Φ : D → List Sk → Prop} {te ta tb : TE} {t u : TS} {tt : TT} {W : Wh} {g : TG} {i : Nat}
theorem EvM.more (h : EvM c te Γ m Φ) (e : m ≤ m1) : EvM c te Γ m1 Φ := fun Hb Hd0 H0 σ Hd H n o l x Q q => h Hb Hd0 H0 σ Hd H n o (by omega) x Q fun v d Γ' Hd' H' f o' => q v d Γ' Hd' H' f (o'.more (by omega))
theorem EvM.imp {Φ' : D → List Sk → Prop} (h : EvM c te Γ m Φ) (e : ∀ d G, Φ d G → Φ' d G) : EvM c te Γ m Φ' := fun Hb Hd0 H0 σ Hd H n o l x Q q => h Hb Hd0 H0 σ Hd H n o l x Q fun v d Γ' Hd' H' f o' => q v d Γ' Hd' H' (e d Γ' f) o'
theorem Ev.toM (h : Ev c te Γ m φ) : EvM c te Γ m (fun d Γ' => Γ' = Γ ∧ φ d) := fun Hb Hd0 H0 σ Hd H n o l x Q q =>
  h σ Hd H n o.sr o.g.s o.pe l (x.grow o.g) Q fun v d Hd' H' g pe f r => q v d Γ Hd' H' ⟨rfl, f⟩ (o.grow g pe) r
/-- a local list seen as data while an expression gives a scalar -/
def scalar : D → Bool
  | .non => true | .bl _ => true | .int _ => true | .str _ => true | _ => false
theorem rep_scalar {K : PySem.W.Frag} {H H' : Hp} {v : V} {d : D} (s : scalar d = true) (r : Rep K H v d) : Rep K H' v d := by
  cases r with
  | non => exact .non
  | bl b => exact .bl b
  | int b => exact .int b
  | str b => exact .str b
  | _ => cases s
theorem ev_borrow {ds : List D} (hi : Γ[i]? = some (.own ds)) (h : Ev c te (Γ.set i (.dat (.lst ds))) m φ) (hs : ∀ d, φ d → scalar d = true) (hx : ∀ C fs, ¬ c.χ C fs := by intro _ _ z; exact z) : Ev c te Γ m φ := fun σ Hd H n s sa pe l x Q q => by
  obtain ⟨o', hσ, a, vs, e, h1, h2, h3, ne⟩ := s.get hi
  subst e
  have hl : i < Γ.length := (List.getElem?_eq_some_iff.mp hi).1
  have mo : Same Hd (upd Hd a (.lst vs)) := fun b u e => by rw [upd_ne (ne_of_none e h2)]; exact e
  have sa' : Same (upd Hd a (.lst vs)) H := fun b u e => by
    by_cases z : b = a
    · subst z; rw [upd_same] at e; cases e; exact h1
    · rw [upd_ne z] at e; exact sa _ _ e
  have keepO : ∀ {j : Nat} {k : Sk}, (Γ.set i (.dat (.lst ds)))[j]? = some k → k.isOwn = true → i ≠ j ∧ Γ[j]? = some k := fun {j k} q oq => by
    by_cases e : i = j
    · subst e; rw [List.getElem?_set_self hl] at q; cases q; cases oq
    · rw [List.getElem?_set_ne e] at q; exact ⟨e, q⟩
  have s' : SR c.K c.p (upd Hd a (.lst vs)) H σ (Γ.set i (.dat (.lst ds))) := by
    refine ⟨by rw [List.length_set]; exact s.len, fun j o2 k q1 q2 => ?_, fun j j' k1 k2 b nj q1 o1 q2 o2 e1 e2 => s.ap j j' k1 k2 b nj (keepO q1 o1).2 o1 (keepO q2 o2).2 o2 e1 e2⟩
    by_cases e : i = j
    · subst e
      rw [List.getElem?_set_self hl] at q2; cases q2
      rw [hσ] at q1; cases q1
      exact ⟨_, rfl, .lst upd_same (h3.mono mo)⟩
    · rw [List.getElem?_set_ne e] at q2
      have old := s.ok j _ _ q1 q2
      cases k with
      | un => exact True.intro
      | dat d => obtain ⟨v, e1, e2⟩ := old; exact ⟨v, e1, e2.mono mo⟩
      | own _ =>
        obtain ⟨l2, w2, e2, b1, b2, b3, b4⟩ := old
        subst e2
        have nl : l2 ≠ a := fun z => by subst z; exact s.ap i j _ _ _ e hi rfl q2 rfl hσ q1
        exact ⟨l2, w2, rfl, b1, by rw [upd_ne nl]; exact b2, b3.mono mo, b4⟩
      | odk _ _ =>
        obtain ⟨l2, w2, e2, b1, bl, b2, b3, b4⟩ := old
        subst e2
        have nl : l2 ≠ a := fun z => by subst z; exact s.ap i j _ _ _ e hi rfl q2 rfl hσ q1
        exact ⟨l2, w2, rfl, b1, bl, by rw [upd_ne nl]; exact b2, b3.mono mo, b4⟩
      | slf _ _ _ _ _ =>
        obtain ⟨l2, w2, e2, b1, bl, b2, b3, b4⟩ := old
        subst e2
        have nl : l2 ≠ a := fun z => by subst z; exact s.ap i j _ _ _ e hi rfl q2 rfl hσ q1
        exact ⟨l2, w2, rfl, b1, bl, by rw [upd_ne nl]; exact b2, b3.mono mo, b4⟩
      | pen => exact old
  have x' : Xs c (upd Hd a (.lst vs)) H := fun C dx fs Hd' H' g hc _ => absurd hc (hx C fs)
  refine h σ _ H n s' sa' (pe.freeze ne h2) l x' Q fun v d Hd' H' g pe' f r => ?_
  have gg : Grow c.p.a Hd H Hd H' := ⟨Same.refl _, g.h, (mo.trans g.d).trans g.s, fun _ _ z => z, g.m⟩
  refine q v d Hd H' gg ?_ f (rep_scalar (hs d f) r)
  cases hp : c.p with
  | none => exact True.intro
  | some ac =>
    rw [hp] at pe pe'
    obtain ⟨e1, _, _⟩ := pe'
    exact ⟨e1, pe.d, pe.c⟩
theorem evm_freeze {ds : List D} (hi : Γ[i]? = some (.own ds)) (h : EvM c te (Γ.set i (.dat (.lst ds))) m Φ) : EvM c te Γ m Φ := fun Hb Hd0 H0 σ Hd H n o l x Q q => by
  obtain ⟨a, vs, _, _, _, _, _, o'⟩ := o.freeze hi
  exact h Hb Hd0 H0 σ _ H n o' l x Q q
theorem wp_freeze {ds : List D} (i : Nat) (hi : Γ[i]? = some (.own ds)) (h : Wp c t (Γ.set i (.dat (.lst ds))) m W) : Wp c t Γ m W := fun Hb Hd0 H0 σ Hd H n o l x E k1 k2 k3 k4 => by
  obtain ⟨a, vs, _, _, _, _, _, o'⟩ := o.freeze hi
  exact h Hb Hd0 H0 σ _ H n o' l x E k1 k2 k3 k4
theorem Wp.more (h : Wp c t Γ m W) (e : m ≤ m1) : Wp c t Γ m1 W := fun Hb Hd0 H0 σ Hd H n o l x E k1 k2 k3 k4 =>
  h Hb Hd0 H0 σ Hd H n o (by omega) x E (fun a b d e f o' => k1 a b d e f (o'.more (by omega))) (fun a b d e f o' => k2 a b d e f (o'.more (by omega))) (fun a b d e f o' => k3 a b d e f (o'.more (by omega))) (fun a b d e f g pe => k4 a b d e f g (pe.more (by omega)))
theorem Wp.imp {W' : Wh} (h : Wp c t Γ m W) (eN : ∀ G, W.N G → W'.N G) (eR : ∀ d, W.R d → W'.R d) (eB : ∀ G, W.B G → W'.B G) (eC : ∀ G, W.C G → W'.C G) : Wp c t Γ m W' := fun Hb Hd0 H0 σ Hd H n o l x E k1 k2 k3 k4 =>
  h Hb Hd0 H0 σ Hd H n o l x E (fun a b d e f => k1 a b d e (eN _ f)) (fun a b d e f => k2 a b d e (eB _ f)) (fun a b d e f => k3 a b d e (eC _ f)) (fun a b d e f => k4 a b d e (eR _ f))
/-! statements -/
theorem wp_next (h : W.N Γ) : Wp c tNext Γ 0 W := fun Hb Hd0 H0 σ Hd H n o l x E k1 k2 k3 k4 => k1 Γ σ Hd H h o
theorem wp_break (h : W.B Γ) : Wp c tBreak Γ 0 W := fun Hb Hd0 H0 σ Hd H n o l x E k1 k2 k3 k4 => k2 Γ σ Hd H h o
theorem wp_cont (h : W.C Γ) : Wp c tCont Γ 0 W := fun Hb Hd0 H0 σ Hd H n o l x E k1 k2 k3 k4 => k3 Γ σ Hd H h o
theorem wp_seqW {N' : List Sk → Prop} (h : Wp c t Γ m1 { W with N := N' }) (h2 : ∀ Γ', N' Γ' → Wp c u Γ' m2 W) : Wp c (tSeq t u) Γ (m1 + m2) W := fun Hb Hd0 H0 σ Hd H n o l x E k1 k2 k3 k4 => by
  refine h Hb Hd0 H0 σ Hd H n o (by omega) x _ (fun Γ' σ' Hd' H' f o' => ?_) (fun a b d e f o' => k2 a b d e f (o'.more (by omega))) (fun a b d e f o' => k3 a b d e f (o'.more (by omega))) (fun a b d e f g pe => k4 a b d e f g (pe.more (by omega)))
  refine h2 Γ' f Hb Hd0 H0 σ' Hd' H' _ o' (by omega) x E ?_ ?_ ?_ ?_
  · intro a b d e f o2; exact k1 a b d e f (by rw [← Nat.add_assoc]; exact o2)
  · intro a b d e f o2; exact k2 a b d e f (by rw [← Nat.add_assoc]; exact o2)
  · intro a b d e f o2; exact k3 a b d e f (by rw [← Nat.add_assoc]; exact o2)
  · intro a b d e f g o2; exact k4 a b d e f g (by rw [← Nat.add_assoc]; exact o2)
theorem wp_ret (h : EvM c te Γ m (fun d _ => W.R d)) : Wp c (tRet te) Γ m W := fun Hb Hd0 H0 σ Hd H n o l x E k1 k2 k3 k4 =>
  h Hb Hd0 H0 σ Hd H n o l x _ fun v d Γ' Hd' H' f o' r => k4 v d Hd' H' f o'.g o'.pe r
theorem wp_ret_ {d : D} (h : Ev c te Γ m (· = d)) (e : W.R d) : Wp c (tRet te) Γ m W := wp_ret (h.toM.imp fun d' _ z => by rw [z.2]; exact e)
theorem wp_retE (h : Ev c te Γ m W.R) : Wp c (tRet te) Γ m W := wp_ret (h.toM.imp fun d' _ z => z.2)
theorem wp_retN (h : W.R .non) : Wp c tRetN Γ 0 W := fun Hb Hd0 H0 σ Hd H n o l x E k1 k2 k3 k4 => k4 .non .non Hd H h o.g o.pe .non
theorem wp_asg {j : Nat} (h : EvM c te Γ m (fun d Γ' => W.N (Γ'.set j (.dat d)))) : Wp c (tAsg te (gName j)) Γ m W := fun Hb Hd0 H0 σ Hd H n o l x E k1 k2 k3 k4 =>
  h Hb Hd0 H0 σ Hd H n o l x _ fun v d Γ' Hd' H' f o' r => k1 _ _ Hd' H' f (o'.set r)
/-- x = e; rest -/
theorem wq_asg {j : Nat} {φ : D → Prop} (h : Ev c te Γ m1 φ) (k : ∀ d, φ d → Wp c u (Γ.set j (.dat d)) m2 W) : Wp c (tSeq (tAsg te (gName j)) u) Γ (m1 + m2) W :=
  wp_seqW (N' := fun Γ' => ∃ d, φ d ∧ Γ' = Γ.set j (.dat d)) (wp_asg (h.toM.imp fun d G ⟨e, f⟩ => ⟨d, f, by rw [e]⟩)) fun Γ' ⟨d, f, e⟩ => by rw [e]; exact k d f
theorem wq_asg_ {j : Nat} {d : D} (h : Ev c te Γ m1 (· = d)) (k : Wp c u (Γ.set j (.dat d)) m2 W) : Wp c (tSeq (tAsg te (gName j)) u) Γ (m1 + m2) W := wq_asg h fun _ e => by rw [e]; exact k
theorem wq_asgM {j : Nat} (h : EvM c te Γ m1 Φ) (k : ∀ d G, Φ d G → Wp c u (G.set j (.dat d)) m2 W) : Wp c (tSeq (tAsg te (gName j)) u) Γ (m1 + m2) W :=
  wp_seqW (N' := fun Γ' => ∃ d G, Φ d G ∧ Γ' = G.set j (.dat d)) (wp_asg (h.imp fun d G f => ⟨d, G, f, rfl⟩)) fun Γ' ⟨d, G, f, e⟩ => by rw [e]; exact k d G f
/-- xs = [..], a list that will be changed -/
theorem wp_asgOwn {ta : TA} {j : Nat} {ψ : List D → Prop} (h : EvA c ta Γ m ψ) (hl : ∀ ds, ψ ds → ds.length ≤ 1000) (k : ∀ ds, ψ ds → W.N (Γ.set j (.own ds))) : Wp c (tAsg (tLst ta) (gName j)) Γ m W := fun Hb Hd0 H0 σ Hd H n o l x E k1 k2 k3 k4 =>
  h σ Hd H n o.sr o.g.s o.pe l (x.grow o.g) _ fun vs ds Hd' H' g pe f r => ⟨Nat.le_of_lt (small1000 (by rw [r.length]; exact hl ds f)), fun a ha => k1 _ _ _ _ (k ds f) ((o.grow g pe).newOwn ha r)⟩
theorem wq_asgOwn {ta : TA} {j : Nat} {ds : List D} (h : EvA c ta Γ m1 (· = ds)) (k : Wp c u (Γ.set j (.own ds)) m2 W) (hl : ds.length ≤ 1000 := by first | decide | simp) : Wp c (tSeq (tAsg (tLst ta) (gName j)) u) Γ (m1 + m2) W :=
  wp_seqW (N' := fun G => G = Γ.set j (.own ds)) (wp_asgOwn h (fun _ e => by rw [e]; exact hl) fun _ e => by rw [e]) fun _ e => by rw [e]; exact k
theorem wp_drop (h : EvM c te Γ m (fun _ G => W.N G)) : Wp c (tDrop te) Γ m W := fun Hb Hd0 H0 σ Hd H n o l x E k1 k2 k3 k4 =>
  h Hb Hd0 H0 σ Hd H n o l x _ fun v d Γ' Hd' H' f o' r => k1 _ _ Hd' H' f o'
theorem wp_if {β : Bool → Prop} (h : EvB c tt Γ m1 β) (h1 : β true → Wp c t Γ m2 W) (h2 : β false → Wp c u Γ m2 W) : Wp c (tIfS tt t u) Γ (m1 + m2) W := fun Hb Hd0 H0 σ Hd H n o l x E k1 k2 k3 k4 =>
  h σ Hd H n o.sr o.g.s o.pe (by omega) (x.grow o.g) _ fun b Hd' H' g pe f => by
    have fin : ∀ {t' : TS}, Wp c t' Γ m2 W → t' E σ H' := fun {t'} w => by
      refine w Hb Hd0 H0 σ Hd' H' _ (o.grow g pe) (by omega) x E ?_ ?_ ?_ ?_
      · intro a b d e f o2; exact k1 a b d e f (by rw [← Nat.add_assoc]; exact o2)
      · intro a b d e f o2; exact k2 a b d e f (by rw [← Nat.add_assoc]; exact o2)
      · intro a b d e f o2; exact k3 a b d e f (by rw [← Nat.add_assoc]; exact o2)
      · intro a b d e f g o2; exact k4 a b d e f g (by rw [← Nat.add_assoc]; exact o2)
    cases b with
    | true => exact fin (h1 f)
    | false => exact fin (h2 f)
theorem wp_ifT (h : EvB c tt Γ m1 (· = true)) (h1 : Wp c t Γ m2 W) : Wp c (tIfS tt t u) Γ (m1 + m2) W := wp_if h (fun _ => h1) fun e => absurd e (by simp)
theorem wp_ifF (h : EvB c tt Γ m1 (· = false)) (h1 : Wp c u Γ m2 W) : Wp c (tIfS tt t u) Γ (m1 + m2) W := wp_if h (fun e => absurd e (by simp)) fun _ => h1
/-- if c: t; rest, the rest told in each way -/
theorem wq_if {t1 t2 : TS} {β : Bool → Prop} (h : EvB c tt Γ m1 β) (h1 : β true → Wp c (tSeq t1 u) Γ m2 W) (h2 : β false → Wp c (tSeq t2 u) Γ m2 W) : Wp c (tSeq (tIfS tt t1 t2) u) Γ (m1 + m2) W := by
  have q := wp_if (t := tSeq t1 u) (u := tSeq t2 u) h h1 h2
  exact q
theorem wq_ifT {t1 t2 : TS} (h : EvB c tt Γ m1 (· = true)) (h1 : Wp c (tSeq t1 u) Γ m2 W) : Wp c (tSeq (tIfS tt t1 t2) u) Γ (m1 + m2) W := wq_if h (fun _ => h1) fun e => absurd e (by simp)
theorem wq_ifF {t1 t2 : TS} (h : EvB c tt Γ m1 (· = false)) (h1 : Wp c (tSeq t2 u) Γ m2 W) : Wp c (tSeq (tIfS tt t1 t2) u) Γ (m1 + m2) W := wq_if h (fun e => absurd e (by simp)) fun _ => h1
theorem wq_next (h : Wp c u Γ m W) : Wp c (tSeq tNext u) Γ m W := h
theorem wq_ret (h : Wp c (tRet te) Γ m { W with N := fun _ => False }) : Wp c (tSeq (tRet te) u) Γ m W := by
  have q := wp_seqW (m2 := 0) (u := u) h fun _ f => f.elim
  exact q
theorem wq_seq {a b : TS} (h : Wp c (tSeq a (tSeq b u)) Γ m W) : Wp c (tSeq (tSeq a b) u) Γ m W := h
/-! lists of one's own -/
theorem seqix_nat {k n : Nat} (h : k < n) : seqIndex? (k : Int) n = some k := by
  unfold seqIndex?
  simp
  omega
theorem wp_append {K : PySem.W.Frag} (h : EvM c te Γ m (fun d G => ∃ ds, G[i]? = some (.own ds) ∧ ds.length < 1000000 ∧ W.N (G.set i (.own (ds ++ [d]))))) (h0 : ∃ ds, Γ[i]? = some (.own ds)) : Wp c (tDrop (tBM K "list" rAppend (tVar i) (tCons te tNil))) Γ m W := fun Hb Hd0 H0 σ Hd H n o l x E k1 k2 k3 k4 => by
  obtain ⟨ds0, h0⟩ := h0
  obtain ⟨o0, hs, a, vs, e, h1, _⟩ := o.sr.get h0
  subst e
  refine ⟨_, hs, .inl ⟨rfl, _, SqL.of h1⟩, h Hb Hd0 H0 σ Hd H n o l x _ fun v d G Hd' H' f o' r => ?_⟩
  obtain ⟨ds, g1, g2, g3⟩ := f
  obtain ⟨o2, hs2, b, ws, e, h2, h3, h4, _⟩ := o'.sr.get g1
  subst e
  rw [hs] at hs2; cases hs2
  exact ⟨a, ws, v, rfl, rfl, h2, by rw [h4.length, sizeLine_eq]; omega, k1 _ _ _ _ g3 (o'.writeOwn g1 hs (h4.append (.cons r .nil)))⟩
theorem wq_append {K : PySem.W.Frag} (h : EvM c te Γ m1 Φ) (h0 : ∃ ds, Γ[i]? = some (.own ds)) (k : ∀ d G, Φ d G → ∃ ds, G[i]? = some (.own ds) ∧ ds.length < 1000000 ∧ Wp c u (G.set i (.own (ds ++ [d]))) m2 W) : Wp c (tSeq (tDrop (tBM K "list" rAppend (tVar i) (tCons te tNil))) u) Γ (m1 + m2) W :=
  wp_seqW (N' := fun G' => Wp c u G' m2 W) (wp_append (h.imp fun d G f => k d G f) h0) fun _ w => w
theorem evm_popAt {K : PySem.W.Frag} (h : EvM c te Γ m (fun d G => ∃ (ds : List D) (k : Nat) (e : D), G[i]? = some (.own ds) ∧ d = .int (k : Int) ∧ ds[k]? = some e ∧ k < 1000000 ∧ Φ e (G.set i (.own (ds.eraseIdx k))))) (h0 : ∃ ds, Γ[i]? = some (.own ds)) :
    EvM c (tBM K "list" rPopAt (tVar i) (tCons te tNil)) Γ m Φ := fun Hb Hd0 H0 σ Hd H n o l x Q q => by
  obtain ⟨ds0, h0⟩ := h0
  obtain ⟨o0, hs, a, vs, e, h1, _⟩ := o.sr.get h0
  subst e
  refine ⟨_, hs, .inl ⟨rfl, _, SqL.of h1⟩, h Hb Hd0 H0 σ Hd H n o l x _ fun v d G Hd' H' f o' r => ?_⟩
  obtain ⟨ds, k, e, g1, g2, g3, g4, g5⟩ := f
  subst g2
  cases r
  obtain ⟨o2, hs2, b, ws, e2, h2, h3, h4, _⟩ := o'.sr.get g1
  subst e2
  rw [hs] at hs2; cases hs2
  obtain ⟨w, z1, z2⟩ := h4.get g3
  have hk : k < ws.length := (List.getElem?_eq_some_iff.mp z1).1
  exact ⟨a, ws, k, k, w, rfl, rfl, h2, by omega, by omega, seqix_nat hk, z1, q w e _ Hd' _ g5 (o'.writeOwn g1 hs (h4.erase k)) z2⟩
/-! for -/
theorem wp_for {wi : TI} {tb : TS} {ψ : List D → Prop} (Iv : List D → Nat → List Sk → Prop) (hi : EvI c wi Γ m0 ψ) (hL : ∀ ds, ψ ds → ds.length ≤ L) (h0 : ∀ ds, ψ ds → Iv ds 0 Γ)
    (hs : ∀ ds, ψ ds → ∀ i d Γ', ds[i]? = some d → Iv ds i Γ' → ∃ ps, TgD c g d ps ∧ Wp c tb (setD Γ' ps) m1 { N := Iv ds (i + 1), C := Iv ds (i + 1), B := W.N, R := W.R })
    (hd : ∀ ds, ψ ds → ∀ Γ', Iv ds ds.length Γ' → W.N Γ') : Wp c (tFor wi g tb) Γ (m0 + L * m1) W := fun Hb Hd0 H0 σ Hd H n o l x E k1 k2 k3 k4 => by
  have hm : n + m0 ≤ LIM := by have := Nat.zero_le (L * m1); omega
  refine hi σ Hd H n o.sr o.g.s o.pe hm (x.grow o.g) _ fun J ds Hd1 H1 g1 pe1 f J1 => ?_
  have hl := hL ds f
  have key : ∀ i, i ≤ ds.length → i * m1 ≤ L * m1 := fun i hi => Nat.mul_le_mul_right _ (by omega)
  have o1 := o.grow g1 pe1
  let Pv : Nat → St → Hp → Prop := fun i σx Hx => ∃ Γx Hdx, Iv ds i Γx ∧ Ok c Hd1 Hd0 H0 σx Γx Hdx Hx (n + m0 + i * m1)
  refine ⟨fun i m σx Hx => m = ds.length - i ∧ i ≤ ds.length ∧ Pv i σx Hx, ⟨ds.length, by simp, Nat.zero_le _, Γ, Hd1, h0 ds f, ⟨Same.refl _, o1.s0, o1.g, o1.sr, by rw [Nat.zero_mul]; exact o1.pe, o1.fr⟩⟩, ?_⟩
  rintro i m σx Hx ⟨rfl, hi, Γx, Hdx, ivx, ox⟩
  obtain ⟨go, stop, yld⟩ := J1 Hdx Hx ox.b ox.g.s
  have back : ∀ {σ' Γ' Hd' H' k}, Ok c Hd1 Hd0 H0 σ' Γ' Hd' H' k → Ok c Hb Hd0 H0 σ' Γ' Hd' H' k := fun o' => ⟨(o.b.trans g1.d).trans o'.b, o'.s0, o'.g, o'.sr, o'.pe, o'.fr⟩
  by_cases hlt : i < ds.length
  · refine .inr ⟨go i hlt, Pv (i + 1), fun σ' H' p' => ⟨ds.length - (i + 1), by omega, rfl, hlt, p'⟩, fun v Hy hy => ?_⟩
    have hd' : ds[i]? = some ds[i] := by simp
    obtain ⟨Hd3, g3, r3⟩ := yld i v Hy hy _ hd'
    obtain ⟨ps, tg, hb⟩ := hs ds f i _ Γx hd' ivx
    have o3 := ox.grow g3.up (ox.pe.grow g3)
    have kk := key (i + 1) hlt
    have e1 : (i + 1) * m1 = i * m1 + m1 := Nat.succ_mul _ _
    refine tg σx Hd3 Hy v Γx o3.sr o3.g.s r3 _ fun σ2 s2 _ q2 => ?_
    have o4 := o3.tg s2 q2
    refine hb Hd1 Hd0 H0 σ2 Hd3 Hy _ o4 (by omega) x _ ?_ ?_ ?_ ?_
    · intro Γ' σ' Hd' H' iv o5; exact ⟨Γ', Hd', iv, o5.more (by omega)⟩
    · intro Γ' σ' Hd' H' iv o5; exact k1 Γ' σ' Hd' H' iv (back (o5.more (by omega)))
    · intro Γ' σ' Hd' H' iv o5; exact ⟨Γ', Hd', iv, o5.more (by omega)⟩
    · intro v d Hd' H' iv g pe r; exact k4 v d Hd' H' iv g (pe.more (by omega)) r
  · have e : i = ds.length := by omega
    subst e
    have kk := key _ (Nat.le_refl ds.length)
    exact .inl ⟨stop _ (Nat.le_refl _), k1 _ _ _ _ (hd ds f Γx ivx) (back (ox.more (by omega)))⟩
end
end DL
set_option maxRecDepth 100000
set_option maxHeartbeats 4000000
/-! DLg: promises of defs that are called while nothing is being shown (A.guards = some []): FnG in the place of FnOk. -/
namespace DL
open PySem L2 PySem.Spec PyProof.Rows
abbrev NoG (A : Around) : Prop := A.guards = some []

structure FnG (P : Program) (w : World) (K : PySem.W.Frag) (mg : Str → Option Value) (base : Heap) (CX : CXT) (k : Nat) (f : Addr) (fd : FuncData) (ps : List Str) (sp : Sp) : Prop where
  len : ∀ vs H Q E, sp vs H Q E → vs.length = ps.length
  run : ∀ (A : Around), Room k A → NoG A → ∀ (outer : List Env) (s : Shared) (H : Hp) (args : Args) (us : List Value) (vs : List V) (Q : VK) (E : XK), Env0 P w K mg base A outer s H → BindsTo s fd args (ps.zip us) → Vals vs us →
    sp vs H Q E → codeAny (model P w) A (.call (.ref f) args) (CR CX outer P w H s Q E) s
/-- a def of the text as it stands behind the top, with or without defaults -/
structure FunV (K : PySem.W.Frag) (x qual : Str) (st : Stmt) (f : Addr) (fd : FuncData) : Prop where
  ex : ∃ (oc : Value) (od : Option Addr) (dV kV doc pm : Value) (an : Option Addr) (cdv ct : Value) (osl : Array (Option Value)),
    fd = PySem.W.fnOf x qual (defArgs st) (defBody st) (defScope st) dV kV doc pm an cdv ct ∧ K.lookup f = some ⟨oc, od, .func fd, osl⟩ ∧ PySem.W.codeIn K cdv qual = true
  kp : PySem.W.keepIn K (.ref f) = true
section
variable {P : Program} {w : World} {K : PySem.W.Frag} {mg : Str → Option Value} {base : Heap} {CX : CXT} {j k : Nat} {f : Addr} {fd : FuncData} {ps N : List Str} {sp sp' : Sp} {x qual : Str} {st : Stmt}
theorem FnG.mono (F : FnG P w K mg base CX j f fd ps sp) (h : j ≤ k) : FnG P w K mg base CX k f fd ps sp := ⟨F.len, fun A r => F.run A (r.mono h)⟩
theorem FnG.imp (F : FnG P w K mg base CX k f fd ps sp) (h : ∀ vs H Q E, sp' vs H Q E → sp vs H Q E) : FnG P w K mg base CX k f fd ps sp' :=
  ⟨fun vs H Q E z => F.len _ _ _ _ (h vs H Q E z), fun A r g outer s H args us vs Q E e0 b rv z => F.run A r g outer s H args us vs Q E e0 b rv (h _ _ _ _ z)⟩
/-- a def by its body -/
theorem fng_of (F : FunV K x qual st f fd) (S : FnScope N ps (defScope st)) (len : ∀ vs H Q E, sp vs H Q E → vs.length = ps.length)
    (hbody : ∀ (cd : Value) (A : Around) (outer : List Env) (s : Shared) (H : Hp) (vs : List V) (Q : VK) (E : XK), Room k (A.deeper (envOfC qual (defScope st) s.heap.objs.size f cd)) → NoG (A.deeper (envOfC qual (defScope st) s.heap.objs.size f cd)) → sp vs H Q E →
      ∃ t, PSs (cxOf CX P w K mg base N qual (defScope st) f cd A outer s H E) (defBody st) t ∧ t { nx := fun _ H' => Q .non H', rt := Q } (L2.start N vs) H) : FnG P w K mg base CX (k + 1) f fd ps sp := by
  obtain ⟨oc, od, dV, kV, doc, pm, an, cdv, ct, osl, rfl, lk, hcd⟩ := F.ex
  refine ⟨len, fun A room ng outer s H args us vs Q E env bnd rel wish => ?_⟩
  have inK : K.In s.heap := env.mod.kin.keeps fun b o e => (env.bs b o e).1
  have noLim : s.heap.NoLimit := env.mod.nolimit.keeps fun b o e => (env.bs b o e).1
  refine codeAny_call_function room.depth (inK _ _ lk) rfl S.co S.gen rfl (PySem.W.codeRec_of inK hcd) (bnd _ _ _ _ (wpAny_newFunctionEnv_cells S.kind (fun y hy => ?_) fun env' he s1 laid => ?_))
  · rcases S.par y.1 (List.of_mem_zip hy).1 with q | q
    · exact .inl q
    · exact .inr ⟨q, PySem.W.cellsFrom_some _ _ _ (.inl q)⟩
  · subst he
    obtain ⟨t, ht, hq⟩ := hbody cdv A outer s H vs Q E (room.deeper _) ng wish
    refine ⟨noLim.keeps laid.toInCall.keep, codeAny_func ?_⟩
    refine wpAny_mono (ht.run [] s1 _ H _ (inv_start S room.hd env (len _ _ _ _ wish) rel laid) hq) (fun flow s' got => ?_) fun _ _ got => got
    cases flow with
    | ret u => obtain ⟨v, _, H', J, rv, z⟩ := got; exact ⟨v, H', J.os, J.bare, J.base, J.hok, rv, z⟩
    | next => obtain ⟨_, H', J, z⟩ := got; exact ⟨V.non, H', J.os, J.bare, J.base, J.hok, rfl, z⟩
    | brk => obtain ⟨_, _, _, z⟩ := got; exact z.elim
    | cont => obtain ⟨_, _, _, z⟩ := got; exact z.elim
end
section
variable {X : Cx} {CX : CXT} {k : Nat} {f C : Addr} {fd : FuncData} {ps : List Str} {sp : Sp} {E : XK} {x m : Str} {p pos apos : Pos} {e o : Expr} {es : List Expr} {ta : TE} {t : TA} {ds : List Value} {dvs : List V}
theorem rung {pins : List (Addr × Obj)} {σ : L2.St} {H : Hp} {s : Shared} {Q : VK} {us : List Value} {vs : List V} (F : FnG X.prog X.w X.K X.mg X.base CX k f fd ps sp) (hr : Room k X.A) (ng : NoG X.A) (hb : Binds X.K fd ps ds) (hd : Vals dvs ds) (hx : Passes CX X E)
    (I : L2.Inv X pins σ H s) (r : Vals vs us) (h : sp (vs ++ dvs) H Q E) : wpAny (model X.prog X.w) X.A (call (.ref f) us) (EP X pins σ Q) X.xe s := by
  have both := r.append hd
  have same : (us ++ ds).length = ps.length := both.length.symm.trans (F.len _ _ _ _ h)
  refine wpAny_call (codeAny_mono (F.run X.A hr ng X.stack s H ⟨us, []⟩ _ _ Q E I.env0 (hb s us I.kIn same) both h) fun res s' got => ?_)
  cases res with
  | error er => exact hx pins σ H s er s' I got
  | ok flow => cases flow with
    | ret u => exact I.after got
    | next => exact got.elim
    | brk => exact got.elim
    | cont => exact got.elim
/-- f(a, ..) -/
theorem peg_call (F : FnG X.prog X.w X.K X.mg X.base CX k f fd ps sp) (hr : Room k X.A) (ng : NoG X.A) (hg : Gl X x) (hm : X.mg x = some (.ref f)) (hk : PySem.W.keepIn X.K (.ref f) = true) (hb : Binds X.K fd ps ds) (hd : Vals dvs ds) (hx : Passes CX X E) (ha : PA X (e :: es) t)
    (h1 : (x == ("__debug__" : Str)) = false := by decide) (h2 : starEach (e :: es) X.env = (false, eval e X.env) :: starEach es X.env := by rfl) (h3 : (backTo pos (starEach es X.env)).any (·.1) = false := by rfl) : PE X (.Call (.Name x p) (e :: es) [] pos) (tCall sp dvs E t) := by
  refine ⟨fun pins s0 σ0 Hp0 Qq Iv hw => wpAny_Call_Name_kw (ld_glob Iv hg hm ?_ h1)⟩
  refine PySem.W.callWith_K (h₀ := X.base) Iv.ok.mod.kin hk (thn (ha.run pos pins s0 σ0 Hp0 _ Iv hw) fun us st got => ?_) h2 h3
  obtain ⟨vs, Hx, Ix, rx, qx⟩ := got
  exact ⟨Ix.kIn, rung F hr ng hb hd hx Ix rx qx⟩
/-- f() -/
theorem peg_call0 (F : FnG X.prog X.w X.K X.mg X.base CX k f fd ps sp) (hr : Room k X.A) (ng : NoG X.A) (hg : Gl X x) (hm : X.mg x = some (.ref f)) (hk : PySem.W.keepIn X.K (.ref f) = true) (hb : Binds X.K fd ps ds) (hd : Vals dvs ds) (hx : Passes CX X E)
    (h1 : (x == ("__debug__" : Str)) = false := by decide) : PE X (.Call (.Name x p) [] [] pos) (tCall sp dvs E tNil) := by
  refine ⟨fun pins s0 σ0 Hp0 Qq Iv hw => wpAny_Call_Name_kw (ld_glob Iv hg hm ?_ h1)⟩
  exact PySem.W.callWith_K0 Iv.kIn hk (rung F hr ng hb hd hx Iv .nil hw)
end
/-! ### the end of a law -/
section
variable {P : Program} {w : World} {K : PySem.W.Frag} {mg mb : Str → Option Value} {k : Nat} {fa a : Addr} {fd : FuncData} {x : Str} {sp : Sp} {s₁ : Shared} {vs : List Value} {ns : List Int}
theorem law_coreG {H : Hp} (KX : K.In s₁.heap) (hns : s₁.heap.Ns mainGlobals mg) (hb : s₁.heap.Ns builtinsNs mb) (hbb : ∀ x : Str, x ≠ "__name__" → mb x = bootBuiltins x) (hlim : s₁.heap.NoLimit) (hg : s₁.gens = #[])
    (ha : s₁.heap.get? a = some { cls := .type "list", data := .seq vs.toArray }) (hr : Room k callerA) (F : ∀ base : Heap, K.In base → base.Ns mainGlobals mg → FnG P w K mg base CX0 k fa fd [x] sp) (hbind : ∀ (s : Shared) (u : Value), BindsTo s fd ⟨[u], []⟩ [(x, u)])
    (hO : Only H) (hS : sp [.ref a] H (fun v _ => v = .bl true) fun _ _ _ => False) (hok : HOk P w H s₁.heap) (hA : ∀ b, H b ≠ none → b = a) (hK : H a ≠ none → K.lookup a = none) :
    codeAny (model P w) callerA (.call (.ref fa) ⟨[.ref a], []⟩) (fun r s' => r = .ok (.ret (.bool true)) ∧ OldK s₁.heap s'.heap ∧ s'.os = s₁.os ∧ AllBare s'.gens) s₁ := by
  have plain : ∀ {b : Addr} {u : HO}, H b = some u → b = a := fun {b u} z => hA b (by rw [z]; exact fun q => nomatch q)
  have under : ∀ {b : Addr} {mm : Str → Option Value}, s₁.heap.Ns b mm → (hidT s₁.heap H).Ns b mm := fun {b mm} z => by
    obtain ⟨ob, es, ep, z1, z2, z3⟩ := z
    refine ⟨ob, es, ep, hidT_get z1 ?_, z2, z3⟩
    cases q : H b with
    | none => rfl
    | some u =>
      rw [plain q, ha] at z1
      cases z1
      cases z2
  have kin : K.In (hidT s₁.heap H) := fun b ob z => by
    refine hidT_get (KX b ob z) ?_
    cases q : H b with
    | none => rfl
    | some u =>
      have eb := plain q
      subst eb
      rw [hK (by rw [q]; exact fun y => nomatch y)] at z
      cases z
  obtain ⟨mc, l1, l2⟩ := hlim
  have env : Env0 P w K mg (hidT s₁.heap H) callerA [] s₁ H := ⟨rfl, ⟨kin, under hns, ⟨mb, under hb, hbb⟩, mc, under l1, l2⟩, fun b ob z => of_hidT z, Nat.le_of_eq (hidT_size _ _), trivial, fun b z => (List.not_mem_nil z).elim, hok, .of_eq hg⟩
  refine codeAny_mono ((F _ kin (under hns)).run callerA hr rfl [] s₁ H ⟨[.ref a], []⟩ [.ref a] [.ref a] _ _ env (hbind s₁ (.ref a)) (.cons rfl .nil) hS) fun res s' got => ?_
  cases res with
  | error er => exact got.elim
  | ok flow => cases flow with
    | next => exact got.elim
    | brk => exact got.elim
    | cont => exact got.elim
    | ret u =>
      obtain ⟨v, H2, hos, hbare, un, hok2, rv, isT⟩ := got
      have isT' : v = .bl true := isT
      subst isT'
      cases rv
      refine ⟨rfl, OldK.of_keep fun b ob z => ?_, hos, hbare⟩
      rcases hO b with q | ⟨o2, xs, q⟩
      · exact un.keep b ob z q (fun y => (List.not_mem_nil y).elim) fun y => (List.not_mem_nil y).elim
      · obtain ⟨z1, _⟩ := hok b _ q
        obtain ⟨z2, _⟩ := hok2 b _ (un.frzs b o2 _ q)
        rw [z] at z1
        cases z1
        exact z2
theorem law_callG (KX : K.In s₁.heap) (hns : s₁.heap.Ns mainGlobals mg) (hb : s₁.heap.Ns builtinsNs mb) (hbb : ∀ x : Str, x ≠ "__name__" → mb x = bootBuiltins x) (hlim : s₁.heap.NoLimit) (hg : s₁.gens = #[])
    (ha : s₁.heap.get? a = some { cls := .type "list", data := .seq vs.toArray }) (hi : IntsAre vs ns) (hl : ns.length ≤ sizeLine) (hr : Room k callerA) (F : ∀ base : Heap, K.In base → base.Ns mainGlobals mg → FnG P w K mg base CX0 k fa fd [x] sp) (hbind : ∀ (s : Shared) (u : Value), BindsTo s fd ⟨[u], []⟩ [(x, u)])
    (hsp : ∀ H : Hp, Only H → SqL K H a (ns.map V.int) → sp [.ref a] H (fun v _ => v = .bl true) fun _ _ _ => False) :
    codeAny (model P w) callerA (.call (.ref fa) ⟨[.ref a], []⟩) (fun r s' => r = .ok (.ret (.bool true)) ∧ OldK s₁.heap s'.heap ∧ s'.os = s₁.os ∧ AllBare s'.gens) s₁ := by
  have rel := vals_ints hi
  have cnt := hi.length
  cases look : K.lookup a with
  | some ob =>
    have same := (KX a ob look).symm.trans ha
    cases same
    have only : Only (fun _ => none) := fun _ => .inl rfl
    have inK : SqL K (fun _ => none) a (ns.map V.int) := .inr ⟨_, vs.toArray, _, look, rfl, rfl, rfl, by rw [List.size_toArray, cnt]; exact hl, by simpa using rel⟩
    exact law_coreG KX hns hb hbb hlim hg ha hr F hbind only (hsp _ only inK) (fun b u z => nomatch z) (fun b z => absurd rfl z) fun z => absurd rfl z
  | none =>
    let Hs : Hp := fun b => if b = a then some (.frz { cls := .type "list", data := .seq vs.toArray } (.lst (ns.map V.int))) else none
    have at_ : Hs a = some (.frz { cls := .type "list", data := .seq vs.toArray } (.lst (ns.map V.int))) := if_pos rfl
    have off : ∀ b, b ≠ a → Hs b = none := fun b z => if_neg z
    have only : Only Hs := fun b => by
      by_cases q : b = a
      · subst q; exact .inr ⟨_, _, at_⟩
      · exact .inl (off b q)
    refine law_coreG KX hns hb hbb hlim hg ha hr F hbind only (hsp _ only (.inl (.inr ⟨_, at_⟩))) (fun b u z => ?_) (fun b z => ?_) fun _ => look
    · by_cases q : b = a
      · subst q
        rw [at_] at z
        cases z
        exact ⟨ha, by rw [List.length_map]; exact hl, vs, _, rel, ha⟩
      · rw [off b q] at z; cases z
    · by_cases q : b = a
      · exact q
      · exact absurd (off b q) z
end
theorem walk_ofG {l : PySem.W.OpenLaw} {n k : Nat} {q : Program} {loose : List Str} {XP : (Str → Option Value) → Heap → Prop} {YP : World → Heap → Prop} {d : DefRec} {K : Params → PySem.W.Frag} {sp : PySem.W.Frag → Sp} {x : Str} (hn : l.most = some n) (hn2 : n ≤ sizeLine) (hdf : d.params.defaults = []) (hr : Room k callerA)
    (hY : ∀ (w : World) (h : Heap), YP w h → (K w.params).In h)
    (F : ∀ (w : World) (mg : Str → Option Value) (fa : Addr) (h : Heap), (K w.params).In h → h.Ns mainGlobals mg → mg d.name = some (.ref fa) → ∃ fd : FuncData, (∀ (s : Shared) (u : Value), BindsTo s fd ⟨[u], []⟩ [(x, u)]) ∧
        ∀ base : Heap, (K w.params).In base → base.Ns mainGlobals mg → FnG l.prog w (K w.params) mg base CX0 k fa fd [x] (sp (K w.params)))
    (hsp : ∀ (K : PySem.W.Frag) (H : Hp) (a : Addr) (ns : List Int), ns.length ≤ n → Only H → SqL K H a (ns.map V.int) → sp K [.ref a] H (fun v _ => v = .bl true) fun _ _ _ => False) :
    PySem.W.WalkO q loose XP YP l.row.toRowW d [] (fun f vs => PySem.call f vs) := by
  refine Att.attach_call hn hdf fun w s₀ s₁ mg mb fa o pm cd doc a vs ns G Y ho hd hcd hmg hobj hints hlen hg => ?_
  have inK := hY w _ Y
  obtain ⟨fd, hb, hF⟩ := F w mg fa _ inK G.T.g hmg
  exact law_callG inK G.T.g G.T.b G.T.builtins G.T.nolimit hg hobj hints (Nat.le_trans hlen hn2) hr hF hb fun H h1 h2 => hsp _ H a ns hlen h1 h2
end DL
set_option maxRecDepth 100000
set_option maxHeartbeats 4000000
/-! DL6: promises over data, calls, a def's own theorem. -/
namespace DL
open PySem L2

/-- a def that only reads data and hands data back -/
def SpP (K : PySem.W.Frag) (pre : List D → Prop) (post : List D → D → Prop) : Sp := fun vs H Q _ => ∃ Hd ds, Same Hd H ∧ Reps K Hd vs ds ∧ pre ds ∧ ∀ v d Hd' H', Grow none Hd H Hd' H' → post ds d → Rep K Hd' v d → Q v H'
/-- .. and may raise -/
def SpX (K : PySem.W.Frag) (pre : List D → Prop) (post : List D → D → Prop) (χ : List D → Addr → List (Str × D) → Prop) : Sp := fun vs H Q E => ∃ Hd ds, Same Hd H ∧ Reps K Hd vs ds ∧ pre ds ∧
  (∀ v d Hd' H', Grow none Hd H Hd' H' → post ds d → Rep K Hd' v d → Q v H') ∧ ∀ C dx fs Hd' H', Grow none Hd H Hd' H' → χ ds C fs → XAt K Hd' H' dx fs → E (.ref C) (some dx) H'
/-- a def that draws by the pen, its first argument -/
def SpG (K : PySem.W.Frag) (m : Nat) (pre : List D → Prop) (post : List D → D → Prop) : Sp := fun vs H Q _ => ∃ a cc vs' Hd ds n, vs = .ref a :: vs' ∧ Same Hd H ∧ PenAt n Hd H a cc ∧ n + m ≤ LIM ∧ Reps K Hd vs' ds ∧ pre ds ∧
  ∀ v d Hd' H', Grow (some a) Hd H Hd' H' → PenAt (n + m) Hd' H' a cc → post ds d → Rep K Hd' v d → Q v H'

section
variable {c : Ct} {Γ : List Sk} {m m1 : Nat} {φ : D → Prop} {ta : TA} {ψ : List D → Prop} {pre : List D → Prop} {post : List D → D → Prop} {χ : List D → Addr → List (Str × D) → Prop} {E : XK} {i : Nat}
theorem ev_call {K : PySem.W.Frag} (hK : K = c.K) (h : EvA c ta Γ m ψ) (hp : ∀ ds, ψ ds → pre ds) (hq : ∀ ds d, ψ ds → post ds d → φ d) : Ev c (tCall (SpP K pre post) [] E ta) Γ m φ := fun σ Hd H n s sa pe l x Q q =>
  h σ Hd H n s sa pe l x _ fun vs ds Hd1 H1 g1 pe1 f r => by
    subst hK
    refine ⟨Hd1, ds, g1.s, by rw [List.append_nil]; exact r, hp ds f, fun v d Hd2 H2 g2 f2 r2 => q v d Hd2 H2 (g1.trans g2.up) (pe1.grow g2) (hq ds d f f2) r2⟩
theorem ev_call_ {K : PySem.W.Frag} {ds : List D} {r : D} (h : EvA c ta Γ m (· = ds)) (hp : pre ds) (hq : ∀ d, post ds d → d = r) (hK : K = c.K := by rfl) : Ev c (tCall (SpP K pre post) [] E ta) Γ m (· = r) := ev_call hK h (fun _ e => by rw [e]; exact hp) fun _ d e q => by rw [e] at q; exact hq d q
theorem ev_callX {K : PySem.W.Frag} (hK : K = c.K) (hE : E = c.E) (h : EvA c ta Γ m ψ) (hp : ∀ ds, ψ ds → pre ds) (hq : ∀ ds d, ψ ds → post ds d → φ d) (hx : ∀ ds C fs, ψ ds → χ ds C fs → c.χ C fs) : Ev c (tCall (SpX K pre post χ) [] E ta) Γ m φ := fun σ Hd H n s sa pe l x Q q =>
  h σ Hd H n s sa pe l x _ fun vs ds Hd1 H1 g1 pe1 f r => by
    subst hK
    subst hE
    exact ⟨Hd1, ds, g1.s, by rw [List.append_nil]; exact r, hp ds f, fun v d Hd2 H2 g2 f2 r2 => q v d Hd2 H2 (g1.trans g2.up) (pe1.grow g2) (hq ds d f f2) r2, fun C dx fs Hd2 H2 g2 f2 x2 => x C dx fs Hd2 H2 (g1.trans g2.up) (hx ds C fs f f2) x2⟩
/-- a call that cannot raise here -/
theorem ev_callX0 {K : PySem.W.Frag} (hK : K = c.K) (h : EvA c ta Γ m ψ) (hp : ∀ ds, ψ ds → pre ds) (hq : ∀ ds d, ψ ds → post ds d → φ d) (hx : ∀ ds C fs, ψ ds → ¬ χ ds C fs) : Ev c (tCall (SpX K pre post χ) [] E ta) Γ m φ := fun σ Hd H n s sa pe l x Q q =>
  h σ Hd H n s sa pe l x _ fun vs ds Hd1 H1 g1 pe1 f r => by
    subst hK
    exact ⟨Hd1, ds, g1.s, by rw [List.append_nil]; exact r, hp ds f, fun v d Hd2 H2 g2 f2 r2 => q v d Hd2 H2 (g1.trans g2.up) (pe1.grow g2) (hq ds d f f2) r2, fun C dx fs Hd2 H2 g2 f2 x2 => absurd f2 (hx ds C fs f)⟩
theorem ev_callG {K : PySem.W.Frag} {k : Nat} (hK : K = c.K) (hi : Γ[i]? = some .pen) (h : EvA c ta Γ m ψ) (hp : ∀ ds, ψ ds → pre ds) (hq : ∀ ds d, ψ ds → post ds d → φ d) : Ev c (tCall (SpG K k pre post) [] E (tCons (tVar i) ta)) Γ (m + k) φ := fun σ Hd H n s sa pe l x Q q => by
  obtain ⟨o, hs, a, e, ep⟩ := s.get hi
  subst e
  refine ⟨_, hs, h σ Hd H n s sa pe (by omega) x _ fun vs ds Hd1 H1 g1 pe1 f r => ?_⟩
  subst hK
  cases hcp : c.p with
  | none => rw [hcp] at ep; cases ep
  | some ac =>
    obtain ⟨a', cc⟩ := ac
    rw [hcp] at ep pe1
    have ea : a' = a := by simpa using ep
    subst ea
    refine ⟨a', cc, vs, Hd1, ds, n + m, by rw [List.append_nil], g1.s, pe1, by omega, r, hp ds f, fun v d Hd2 H2 g2 p2 f2 r2 => q v d Hd2 H2 (g1.trans (by rw [hcp]; exact g2)) (by rw [hcp, ← Nat.add_assoc]; exact p2) (hq ds d f f2) r2⟩
theorem ev_callG_ {K : PySem.W.Frag} {k : Nat} {ds : List D} (h : EvA c ta Γ m (· = ds)) (hp : pre ds) (hi : Γ[i]? = some .pen := by rfl) (hK : K = c.K := by rfl) : Ev c (tCall (SpG K k pre post) [] E (tCons (tVar i) ta)) Γ (m + k) (post ds) := ev_callG hK hi h (fun _ e => by rw [e]; exact hp) fun _ d e q => by rw [e] at q; exact q
end

/-! ### a def's own theorem -/
def G0 (N : List Str) (ds : List D) : List Sk := ds.map .dat ++ List.replicate (N.length - ds.length) .un
def G1 (N : List Str) (ds : List D) : List Sk := .pen :: (ds.map .dat ++ List.replicate (N.length - 1 - ds.length) .un)
theorem sr_start {K : PySem.W.Frag} {p : Pn} {Hd H : Hp} {N : List Str} {vs : List V} {ds : List D} (r : Reps K Hd vs ds) : SR K p Hd H (L2.start N vs) (G0 N ds) := by
  have hl := r.length
  refine ⟨by unfold L2.start G0; simp [hl], fun i o k h1 h2 => ?_, fun i j k1 k2 l ne h1 o1 h2 o2 => ?_⟩
  · unfold L2.start at h1; unfold G0 at h2
    by_cases q : i < vs.length
    · rw [List.getElem?_append_left (by simpa using q)] at h1
      rw [List.getElem?_append_left (by simp; omega)] at h2
      rw [List.getElem?_map] at h1 h2
      cases e1 : vs[i]? with
      | none => rw [e1] at h1; cases h1
      | some v =>
        obtain ⟨d, e2, rr⟩ := r.get' e1
        rw [e1] at h1; rw [e2] at h2
        cases h1; cases h2
        exact ⟨v, rfl, rr⟩
    · rw [List.getElem?_append_right (by simp; omega)] at h2
      rw [List.getElem?_replicate] at h2
      split at h2 <;> cases h2
      exact True.intro
  · unfold G0 at h1
    by_cases q : i < ds.length
    · rw [List.getElem?_append_left (by simpa using q), List.getElem?_map] at h1
      cases e1 : ds[i]? with
      | none => rw [e1] at h1; cases h1
      | some v => rw [e1] at h1; cases h1; cases o1
    · rw [List.getElem?_append_right (by simp; omega), List.getElem?_replicate] at h1
      split at h1 <;> cases h1
      cases o1
theorem G0_own {N : List Str} {ds : List D} {i : Nat} {k : Sk} (h : (G0 N ds)[i]? = some k) : k.isOwn = false := by
  unfold G0 at h
  by_cases q : i < ds.length
  · rw [List.getElem?_append_left (by simpa using q), List.getElem?_map] at h
    cases e1 : ds[i]? with
    | none => rw [e1] at h; cases h
    | some v => rw [e1] at h; cases h; rfl
  · rw [List.getElem?_append_right (by simp; omega), List.getElem?_replicate] at h
    split at h <;> cases h
    rfl
theorem sr_start1 {K : PySem.W.Frag} {a cc : Addr} {Hd H : Hp} {N : List Str} {vs : List V} {ds : List D} (r : Reps K Hd vs ds) : SR K (some (a, cc)) Hd H (L2.start N (.ref a :: vs)) (G1 N ds) := by
  have hl := r.length
  have e : L2.start N (.ref a :: vs) = some (.ref a) :: L2.start (N.drop 1) vs := by
    unfold L2.start
    simp only [List.map_cons, List.cons_append, List.length_cons, List.length_drop]
    congr 3
    omega
  have e2 : G1 N ds = .pen :: G0 (N.drop 1) ds := by unfold G1 G0; rw [List.length_drop]
  rw [e, e2]
  have s := sr_start (K := K) (p := some (a, cc)) (Hd := Hd) (H := H) (N := N.drop 1) r
  refine ⟨by rw [List.length_cons, List.length_cons, s.len], fun i o k h1 h2 => ?_, fun i j k1 k2 l ne h1 o1 h2 o2 => ?_⟩
  · cases i with
    | zero => cases h1; cases h2; exact ⟨a, rfl, rfl⟩
    | succ i => exact s.ok i o k h1 h2
  · cases i with
    | zero => cases h1; cases o1
    | succ i => rw [G0_own (show (G0 (N.drop 1) ds)[i]? = some k1 from h1)] at o1; cases o1
theorem G1_own {N : List Str} {ds : List D} {i : Nat} {k : Sk} (h : (G1 N ds)[i]? = some k) : k.isOwn = false := by
  have e2 : G1 N ds = .pen :: G0 (N.drop 1) ds := by unfold G1 G0; rw [List.length_drop]
  rw [e2] at h
  cases i with
  | zero => cases h; rfl
  | succ i => exact G0_own (show (G0 (N.drop 1) ds)[i]? = some k from h)

section
variable {P : Program} {w : World} {K : PySem.W.Frag} {mg : Str → Option Value} {base : Heap} {x qual : Str} {st : Stmt} {f : Addr} {fd : FuncData} {N ps : List Str} {k m : Nat} {pre : List D → Prop} {post : List D → D → Prop} {χ : List D → Addr → List (Str × D) → Prop}
theorem fn_P (F : FunV K x qual st f fd) (S : FnScope N ps (defScope st)) (hl : ∀ ds, pre ds → ds.length = ps.length)
    (hb : ∀ (cdv : Value) (A : Around) (outer : List Env) (s : Shared) (H : Hp) (E : XK), Room k (A.deeper (PyProof.Rows.envOfC qual (defScope st) s.heap.objs.size f cdv)) → NoG (A.deeper (PyProof.Rows.envOfC qual (defScope st) s.heap.objs.size f cdv)) → ∀ ds, pre ds →
      ∃ t, PSs (cxOf CX0 P w K mg base N qual (defScope st) f cdv A outer s H E).nox (defBody st) t ∧ ∀ p, Wp ⟨K, p, E0, fun _ _ => False⟩ t (G0 N ds) 0 (retW (post ds))) :
    FnG P w K mg base CX0 (k + 1) f fd ps (SpP K pre post) := by
  refine fng_of F S (fun vs H Q E h => ?_) (fun cdv A outer s H vs Q E hr ng h => ?_)
  · obtain ⟨Hd, ds, sa, r, hp, _⟩ := h
    rw [r.length, hl ds hp]
  · obtain ⟨Hd, ds, sa, r, hp, q⟩ := h
    obtain ⟨t, ht, hw⟩ := hb cdv A outer s H E hr ng ds hp
    refine ⟨t, ht.nox, hw none Hd Hd H _ Hd H 0 ⟨Same.refl _, sa, .refl sa, sr_start r, True.intro, fun i k' l h1 h2 _ => by rw [G0_own h1] at h2; cases h2⟩ (by decide) (fun _ _ _ _ _ _ hh _ => hh.elim) _ ?_ ?_ ?_ ?_⟩
    · intro Γ' σ' Hd' H' n o; exact q .non .non Hd' H' o.g n .non
    · intro _ _ _ _ z; exact z.elim
    · intro _ _ _ _ z; exact z.elim
    · intro v d Hd' H' n g _ r'; exact q v d Hd' H' g n r'
theorem fn_G (F : FunV K x qual st f fd) (S : FnScope N ps (defScope st)) (hl : ∀ ds, pre ds → ds.length + 1 = ps.length)
    (hb : ∀ (cdv : Value) (A : Around) (outer : List Env) (s : Shared) (H : Hp) (E : XK), Room k (A.deeper (PyProof.Rows.envOfC qual (defScope st) s.heap.objs.size f cdv)) → NoG (A.deeper (PyProof.Rows.envOfC qual (defScope st) s.heap.objs.size f cdv)) → ∀ ds, pre ds →
      ∃ t, PSs (cxOf CX0 P w K mg base N qual (defScope st) f cdv A outer s H E).nox (defBody st) t ∧ ∀ a cc, Wp ⟨K, some (a, cc), E0, fun _ _ => False⟩ t (G1 N ds) m (retW (post ds))) :
    FnG P w K mg base CX0 (k + 1) f fd ps (SpG K m pre post) := by
  refine fng_of F S (fun vs H Q E h => ?_) (fun cdv A outer s H vs Q E hr ng h => ?_)
  · obtain ⟨a, cc, vs', Hd, ds, n, rfl, sa, pe, hn, r, hp, _⟩ := h
    rw [List.length_cons, r.length, hl ds hp]
  · obtain ⟨a, cc, vs', Hd, ds, n, rfl, sa, pe, hn, r, hp, q⟩ := h
    obtain ⟨t, ht, hw⟩ := hb cdv A outer s H E hr ng ds hp
    refine ⟨t, ht.nox, hw a cc Hd Hd H _ Hd H n ⟨Same.refl _, sa, .refl sa, sr_start1 r, pe, fun i k' l h1 h2 _ => by rw [G1_own h1] at h2; cases h2⟩ hn (fun _ _ _ _ _ _ hh _ => hh.elim) _ ?_ ?_ ?_ ?_⟩
    · intro Γ' σ' Hd' H' n o; exact q .non .non Hd' H' o.g o.pe n .non
    · intro _ _ _ _ z; exact z.elim
    · intro _ _ _ _ z; exact z.elim
    · intro v d Hd' H' n g pe' r'; exact q v d Hd' H' g pe' n r'
end
end DL
set_option maxRecDepth 100000
set_option maxHeartbeats 4000000
/-! DL7: operations on data. -/
namespace DL
open PySem L2 PyProof.Rows

/-! ### data as the library's data -/
mutual
def D.py : D → PyData
  | .non => .none | .bl b => .bool b | .int i => .int i | .str s => .str s
  | .lst ds => .list (D.pys ds) | .tup ds => .tuple (D.pys ds)
  | .dct _ _ => .none | .obj _ _ _ => .none | .exc _ _ _ _ => .none
def D.pys : List D → List PyData
  | [] => []
  | d :: ds => D.py d :: D.pys ds
end
mutual
/-- plain data: no dicts, no objects -/
def D.plain : D → Bool
  | .lst ds => D.plains ds | .tup ds => D.plains ds
  | .dct _ _ => false | .obj _ _ _ => false | .exc _ _ _ _ => false
  | _ => true
def D.plains : List D → Bool
  | [] => true
  | d :: ds => D.plain d && D.plains ds
end
mutual
theorem Rep.dp {K : PySem.W.Frag} {H : Hp} : ∀ {v : V} {d : D}, d.plain = true → Rep K H v d → Dp K H v d.py
  | _, _, _, .non => .non
  | _, _, _, .bl b => .bl b
  | _, _, _, .int i => .int i
  | _, _, _, .str x => .str x
  | _, .lst ds, p, .lst h r => .lst (SqL.of h) (Reps.dp p r)
  | _, .tup ds, p, .tup h r => .tup h (Reps.dp p r)
theorem Reps.dp {K : PySem.W.Frag} {H : Hp} : ∀ {vs : List V} {ds : List D}, D.plains ds = true → Reps K H vs ds → DpAll K H vs (D.pys ds)
  | _, _, _, .nil => .nil
  | _, d :: ds, p, .cons h r => by
    have p' := Bool.and_eq_true_iff.mp (show (D.plain d && D.plains ds) = true from p)
    exact .cons (Rep.dp p'.1 h) (Reps.dp p'.2 r)
end
/-- data that == may be asked of -/
def D.ok (d : D) : Bool := d.plain && SeqAt.shaped d.py
theorem D.ok_plain {d : D} (h : d.ok = true) : d.plain = true := (Bool.and_eq_true_iff.mp h).1
theorem D.ok_shaped {d : D} (h : d.ok = true) : SeqAt.shaped d.py = true := (Bool.and_eq_true_iff.mp h).2
def D.eqv (a b : D) : Bool := PyData.eqv a.py b.py
/-- a flat thing -/
def D.flat : D → Bool
  | .non => true | .bl _ => true | .int _ => true | .str _ => true | _ => false
def D.v : D → V
  | .non => .non | .bl b => .bl b | .int i => .int i | .str s => .str s | _ => .non
theorem Rep.flat {K : PySem.W.Frag} {H : Hp} {v : V} {d : D} (f : d.flat = true) (r : Rep K H v d) : v = d.v := by
  cases r <;> first | rfl | cases f
theorem Reps.flat {K : PySem.W.Frag} {H : Hp} : ∀ {vs : List V} {ds : List D}, ds.all D.flat = true → Reps K H vs ds → vs = ds.map D.v
  | _, _, _, .nil => rfl
  | _, d :: ds, f, .cons h r => by
    rw [List.all_cons, Bool.and_eq_true] at f
    rw [Rep.flat f.1 h, Reps.flat f.2 r]; rfl
theorem flat_v {d : D} (f : d.flat = true) : flatV d.v = true := by cases d <;> first | rfl | cases f
theorem flat_vs : ∀ {ds : List D}, ds.all D.flat = true → (ds.map D.v).all flatV = true
  | [], _ => rfl
  | d :: ds, f => by
    rw [List.all_cons, Bool.and_eq_true] at f
    rw [List.map_cons, List.all_cons, flat_v f.1, flat_vs f.2]; rfl
/-- the class of a value -/
def D.ty : D → String
  | .non => "NoneType" | .bl _ => "bool" | .int _ => "int" | .str _ => "str" | .lst _ => "list" | .tup _ => "tuple" | .dct _ _ => "dict" | .obj _ _ _ => "object" | .exc _ _ _ _ => "object"
def D.builtin : D → Bool
  | .obj _ _ _ => false | .exc _ _ _ _ => false | _ => true
theorem rep_ty {K : PySem.W.Frag} {Hd H : Hp} {v : V} {d : D} (s : Same Hd H) (b : d.builtin = true) (r : Rep K Hd v d) : TyX K H v (.type d.ty) := by
  cases r with
  | non => exact .base .non
  | bl k => exact .base (.bl k)
  | int k => exact .base (.int k)
  | str k => exact .base (.str k)
  | lst h r => exact .base (.lst (s _ _ h))
  | tup h r =>
    rcases h with (h | ⟨o, h⟩) | ⟨o, its, n, h, hc, _⟩
    · exact .base (.tup (s _ _ h))
    · exact .fTuple (s _ _ h)
    · exact .kTuple h hc
  | dct h _ _ => exact .base (.dK (s _ _ h))
  | obj _ _ _ => cases b
  | exc => cases b

section
variable {c : Ct} {φ : D → Prop}
theorem o2_c {r : R2} {a b d : D} (h : ∀ x y Hd H, Same Hd H → Rep c.K Hd x a → Rep c.K Hd y b → ∃ v, (∀ Q : VK, Q v H → r x y H Q) ∧ Rep c.K Hd v d) : Op2 c r a b (· = d) := fun x y Hd H s ra rb Q q => by
  obtain ⟨v, h1, h2⟩ := h x y Hd H s ra rb
  exact h1 Q (q v d Hd H (.refl s) rfl h2)
/-! ints -/
theorem o2_I {g : Int → Int → Int} {i j : Int} : Op2 c (rI0 fun i j => .int (g i j)) (.int i) (.int j) (· = .int (g i j)) := o2_c fun x y Hd H s ra rb => by
  cases ra; cases rb
  exact ⟨_, fun Q q => ⟨i, j, rfl, rfl, q⟩, .int _⟩
theorem o2_B {g : Int → Int → Bool} {i j : Int} : Op2 c (rI0 fun i j => .bl (g i j)) (.int i) (.int j) (· = .bl (g i j)) := o2_c fun x y Hd H s ra rb => by
  cases ra; cases rb
  exact ⟨_, fun Q q => ⟨i, j, rfl, rfl, q⟩, .bl _⟩
theorem o2_IC {C : Int → Int → Prop} {g : Int → Int → Int} {i j : Int} (hc : C i j) : Op2 c (rI C fun i j => .int (g i j)) (.int i) (.int j) (· = .int (g i j)) := o2_c fun x y Hd H s ra rb => by
  cases ra; cases rb
  exact ⟨_, fun Q q => ⟨i, j, rfl, rfl, hc, q⟩, .int _⟩
/-! + of anything -/
def rAddU (K : PySem.W.Frag) : R2 := fun x y H Q => rI0 (fun i j => .int (i + j)) x y H Q ∨ (∃ i j, x = .str i ∧ y = .str j ∧ i.length + j.length ≤ sizeLine ∧ Q (.str (i ++ j)) H) ∨ rCatA K x y H Q ∨ rCat x y H Q
theorem op_addU {X : Cx} : OpR X (binaryOp .Add) (rAddU X.K) := OpR.or op_add (OpR.or op_add_str (OpR.or op_catA op_cat))
theorem o2_addI {i j : Int} : Op2 c (rAddU c.K) (.int i) (.int j) (· = .int (i + j)) := fun x y Hd H s ra rb Q q => .inl (o2_I x y Hd H s ra rb Q q)
theorem o2_addS {i j : Str} (h : i.length + j.length ≤ 1000000) : Op2 c (rAddU c.K) (.str i) (.str j) (· = .str (i ++ j)) := o2_c fun x y Hd H s ra rb => by
  cases ra; cases rb
  exact ⟨_, fun Q q => .inr (.inl ⟨i, j, rfl, rfl, by rw [sizeLine_eq]; omega, q⟩), .str _⟩
theorem o2_addT {ds es : List D} (h : ds.length + es.length ≤ 1000000) : Op2 c (rAddU c.K) (.tup ds) (.tup es) (· = .tup (ds ++ es)) := fun x y Hd H s ra rb Q q => by
  cases ra with | tup h1 r1 => cases rb with | tup h2 r2 =>
  rename_i a xs b ys
  refine .inr (.inr (.inl ⟨a, b, xs, ys, rfl, rfl, same_sqt s h1, same_sqt s h2, by rw [r1.length, r2.length, sizeLine_eq]; omega, fun e => ?_, fun _ e => ?_, fun _ _ p hp => ?_⟩))
  · subst e; cases r1; exact q _ _ Hd H (.refl s) rfl (.tup h2 r2)
  · subst e; cases r2; rw [List.append_nil] at q; exact q _ _ Hd H (.refl s) rfl (.tup h1 r1)
  · have g := Grow.new (p := none) (o := HO.tup (xs ++ ys)) s hp
    exact q _ _ _ _ g rfl (.tup (SqT.of upd_same) ((r1.append r2).mono g.d))
theorem o2_addL {ds es : List D} (h : ds.length + es.length ≤ 1000000) : Op2 c (rAddU c.K) (.lst ds) (.lst es) (· = .lst (ds ++ es)) := fun x y Hd H s ra rb Q q => by
  cases ra with | lst h1 r1 => cases rb with | lst h2 r2 =>
  rename_i a xs b ys
  refine .inr (.inr (.inr ⟨a, b, xs, ys, rfl, rfl, s _ _ h1, s _ _ h2, by rw [r1.length, r2.length, sizeLine_eq]; omega, fun p hp => ?_⟩))
  have g := Grow.new (p := none) (o := HO.lst (xs ++ ys)) s hp
  exact q _ _ _ _ g rfl (.lst upd_same ((r1.append r2).mono g.d))
/-! == and != -/
theorem o2_eq {a b : D} (ha : a.ok = true) (hb : b.ok = true) : Op2 c (rEqD c.K) a b (· = .bl (a.eqv b)) := o2_c fun x y Hd H s ra rb =>
  ⟨_, fun Q q => ⟨a.py, b.py, (ra.mono s).dp (D.ok_plain ha), (rb.mono s).dp (D.ok_plain hb), D.ok_shaped ha, D.ok_shaped hb, q⟩, .bl _⟩
theorem o2_ne {a b : D} (ha : a.ok = true) (hb : b.ok = true) : Op2 c (rNeD c.K) a b (· = .bl (!a.eqv b)) := o2_c fun x y Hd H s ra rb =>
  ⟨_, fun Q q => ⟨a.py, b.py, (ra.mono s).dp (D.ok_plain ha), (rb.mono s).dp (D.ok_plain hb), D.ok_shaped ha, D.ok_shaped hb, q⟩, .bl _⟩
/-! is -/
theorem op_isBlA {X : Cx} : OpR X (compareOp .Is) (fun x y H Q => ∃ b, y = .bl b ∧ Q (.bl (decide (x = .bl b))) H) := by
  intro pins s σ H x y v u Q I rx ry h
  obtain ⟨b, rfl, q⟩ := h
  cases ry
  have hp : plainIs v (.bool b) = true := by cases v <;> first | rfl | (exfalso; cases x <;> simp [L2.RelV] at rx)
  refine PySem.wpAny_is_plain hp (fin_bl I q ?_)
  cases x <;> first
    | (cases rx; first | rfl | (rename_i k; cases k <;> cases b <;> rfl))
    | (obtain ⟨t, rfl⟩ := rx; rfl)
def rIsU : R2 := fun x y H Q => (y = .non ∧ Q (.bl (decide (x = .non))) H) ∨ (∃ b, y = .bl b ∧ Q (.bl (decide (x = .bl b))) H)
theorem op_isU {X : Cx} : OpR X (compareOp .Is) rIsU := OpR.or op_isN op_isBlA
def D.isNon : D → Bool
  | .non => true | _ => false
def D.isBl (b : Bool) : D → Bool
  | .bl k => k == b | _ => false
theorem o2_isN {a : D} : Op2 c rIsU a .non (· = .bl a.isNon) := o2_c fun x y Hd H s ra rb => by
  cases rb
  refine ⟨_, fun Q q => .inl ⟨rfl, q⟩, ?_⟩
  cases ra <;> exact .bl _
theorem o2_isB {a : D} {b : Bool} : Op2 c rIsU a (.bl b) (· = .bl (a.isBl b)) := o2_c fun x y Hd H s ra rb => by
  cases rb
  refine ⟨_, fun Q q => .inr ⟨b, rfl, q⟩, ?_⟩
  cases ra with
  | bl k =>
    have e : decide (V.bl k = V.bl b) = (D.bl k).isBl b := by cases k <;> cases b <;> rfl
    rw [e]; exact .bl _
  | _ => exact .bl _
theorem op_notU {X : Cx} : OpR X (compareOp .IsNot) (fun x y H Q => y = .non ∧ Q (.bl (!decide (x = .non))) H) := op_notN
theorem o2_notN {a : D} : Op2 c (fun x y H Q => y = .non ∧ Q (.bl (!decide (x = .non))) H) a .non (· = .bl (!a.isNon)) := o2_c fun x y Hd H s ra rb => by
  cases rb
  refine ⟨_, fun Q q => ⟨rfl, q⟩, ?_⟩
  cases ra <;> exact .bl _
/-! in -/
def rInU (K : PySem.W.Frag) : R2 := fun x y H Q => rIn K false x y H Q ∨ (∃ (k : Nat) (z : Str), x = .str ⟨#[k]⟩ ∧ y = .str z ∧ Q (.bl (decide (k ∈ z.cps.toList))) H)
def rNinU (K : PySem.W.Frag) : R2 := fun x y H Q => rIn K true x y H Q ∨ (∃ (k : Nat) (z : Str), x = .str ⟨#[k]⟩ ∧ y = .str z ∧ Q (.bl (!decide (k ∈ z.cps.toList))) H)
theorem op_inU {X : Cx} : OpR X (compareOp .In) (rInU X.K) := OpR.or op_in_seq op_in_sign
theorem op_ninU {X : Cx} : OpR X (compareOp .NotIn) (rNinU X.K) := OpR.or op_notIn_seq op_notIn_sign
def inD (x : D) (ds : List D) : Bool := inV x.v (ds.map D.v)
theorem o2_inT {x : D} {ds : List D} (hx : x.flat = true) (hd : ds.all D.flat = true) : Op2 c (rInU c.K) x (.tup ds) (· = .bl (inD x ds)) := o2_c fun a b Hd H s ra rb => by
  cases rb with | tup h r =>
  have e := r.flat hd; subst e
  have e := ra.flat hx; subst e
  exact ⟨_, fun Q q => .inl ⟨_, _, rfl, .inr (same_sqt s h), flat_v hx, flat_vs hd, q⟩, .bl _⟩
theorem o2_inL {x : D} {ds : List D} (hx : x.flat = true) (hd : ds.all D.flat = true) : Op2 c (rInU c.K) x (.lst ds) (· = .bl (inD x ds)) := o2_c fun a b Hd H s ra rb => by
  cases rb with | lst h r =>
  have e := r.flat hd; subst e
  have e := ra.flat hx; subst e
  exact ⟨_, fun Q q => .inl ⟨_, _, rfl, .inl (SqL.of (s _ _ h)), flat_v hx, flat_vs hd, q⟩, .bl _⟩
theorem o2_inS {k : Nat} {z : Str} : Op2 c (rInU c.K) (.str ⟨#[k]⟩) (.str z) (· = .bl (decide (k ∈ z.cps.toList))) := o2_c fun a b Hd H s ra rb => by
  cases ra; cases rb
  exact ⟨_, fun Q q => .inr ⟨k, z, rfl, rfl, q⟩, .bl _⟩
theorem o2_ninT {x : D} {ds : List D} (hx : x.flat = true) (hd : ds.all D.flat = true) : Op2 c (rNinU c.K) x (.tup ds) (· = .bl (!inD x ds)) := o2_c fun a b Hd H s ra rb => by
  cases rb with | tup h r =>
  have e := r.flat hd; subst e
  have e := ra.flat hx; subst e
  exact ⟨_, fun Q q => .inl ⟨_, _, rfl, .inr (same_sqt s h), flat_v hx, flat_vs hd, q⟩, .bl _⟩
theorem o2_ninL {x : D} {ds : List D} (hx : x.flat = true) (hd : ds.all D.flat = true) : Op2 c (rNinU c.K) x (.lst ds) (· = .bl (!inD x ds)) := o2_c fun a b Hd H s ra rb => by
  cases rb with | lst h r =>
  have e := r.flat hd; subst e
  have e := ra.flat hx; subst e
  exact ⟨_, fun Q q => .inl ⟨_, _, rfl, .inl (SqL.of (s _ _ h)), flat_v hx, flat_vs hd, q⟩, .bl _⟩
theorem o2_ninS {k : Nat} {z : Str} : Op2 c (rNinU c.K) (.str ⟨#[k]⟩) (.str z) (· = .bl (!decide (k ∈ z.cps.toList))) := o2_c fun a b Hd H s ra rb => by
  cases ra; cases rb
  exact ⟨_, fun Q q => .inr ⟨k, z, rfl, rfl, q⟩, .bl _⟩
/-! items -/
theorem Reps.atI {K : PySem.W.Frag} {H : Hp} {xs : List V} {ds : List D} {i : Int} {d : D} (r : Reps K H xs ds) (h : L2.atI ds i = some d) : ∃ v, L2.atI xs i = some v ∧ Rep K H v d := by
  unfold L2.atI at h ⊢
  rw [r.length]
  cases z : ixN ds.length i with
  | none => rw [z] at h; cases h
  | some k => rw [z] at h; exact r.get (show ds[k]? = some d from h)
theorem o2_ixL {ds : List D} {i : Int} {d : D} (h : atI ds i = some d) : Op2 c (rIx c.K) (.lst ds) (.int i) (· = d) := o2_c fun a b Hd H s ra rb => by
  cases rb
  cases ra with | lst h1 r =>
  obtain ⟨v, e, r'⟩ := r.atI h
  exact ⟨v, fun Q q => .inl ⟨_, _, i, v, rfl, rfl, SqL.of (s _ _ h1), e, q⟩, r'⟩
theorem o2_ixT {ds : List D} {i : Int} {d : D} (h : atI ds i = some d) : Op2 c (rIx c.K) (.tup ds) (.int i) (· = d) := o2_c fun a b Hd H s ra rb => by
  cases rb
  cases ra with | tup h1 r =>
  obtain ⟨v, e, r'⟩ := r.atI h
  exact ⟨v, fun Q q => .inr (.inl ⟨_, _, i, v, rfl, rfl, same_sqt s h1, e, q⟩), r'⟩
theorem o2_ixS {z : Str} {i : Int} {k : Nat} (h : atI z.cps.toList i = some k) (hz : z.length ≤ 1000000) : Op2 c (rIx c.K) (.str z) (.int i) (· = .str ⟨#[k]⟩) := o2_c fun a b Hd H s ra rb => by
  cases rb; cases ra
  exact ⟨_, fun Q q => .inr (.inr ⟨z, i, k, rfl, rfl, by rw [sizeLine_eq]; omega, h, q⟩), .str _⟩
/-! slices -/
def rSlU (K : PySem.W.Frag) : V → Option Int → Option Int → Hp → VK → Prop := fun x lo hi H Q => rSlA K x lo hi H Q ∨ rSlL K x lo hi H Q ∨ rSlS x lo hi H Q
theorem sl_U {X : Cx} : SlR X (rSlU X.K) := SlR.or sl_tupA (SlR.or sl_list sl_str)
def cutD (ds : List D) (lo hi : Option Int) : List D := (ds.drop (HT.sIx ds.length 0 lo)).take (HT.sIx ds.length ds.length hi - HT.sIx ds.length 0 lo)
theorem Reps.cut {K : PySem.W.Frag} {H : Hp} {xs : List V} {ds : List D} (lo hi : Option Int) (r : Reps K H xs ds) : Reps K H (cutV xs lo hi) (cutD ds lo hi) := by
  unfold cutV cutD
  rw [r.length]
  exact (r.drop _).take _
def D.cut (lo hi : Option Int) : D → D
  | .tup ds => .tup (cutD ds lo hi)
  | .lst ds => .lst (cutD ds lo hi)
  | .str z => .str (cutS z lo hi)
  | d => d
def D.seq : D → Bool
  | .tup _ => true | .lst _ => true | .str z => decide (z.length ≤ 1000000) | _ => false
theorem ev_sl {te : TE} {tl th : TO} {Γ : List Sk} {m m1 m2 : Nat} {φ ψ : D → Prop} {ω1 ω2 : Option Int → Prop} (h : Ev c te Γ m φ) (hl : EvO c tl Γ m1 ω1) (hh : EvO c th Γ m2 ω2) (hs : ∀ d, φ d → d.seq = true) (hr : ∀ d lo hi, φ d → ω1 lo → ω2 hi → ψ (d.cut lo hi)) :
    Ev c (tSl (rSlU c.K) te tl th) Γ (m + m1 + m2) ψ := fun σ Hd H n s sa pe l x Q q =>
  h σ Hd H n s sa pe (by omega) x _ fun v d Hd1 H1 g1 pe1 f1 r1 => hl σ Hd1 H1 _ (s.grow g1) g1.s pe1 (by omega) (x.grow g1) _ fun lo Hd2 H2 g2 pe2 f2 => hh σ Hd2 H2 _ (s.grow (g1.trans g2)) g2.s pe2 (by omega) (x.grow (g1.trans g2)) _ fun hi Hd3 H3 g3 pe3 f3 => by
    have gg := (g1.trans g2).trans g3
    have e3 : n + m + m1 + m2 = n + (m + m1 + m2) := by omega
    rw [e3] at pe3
    have r3 := r1.mono (g2.trans g3).d
    have fin := hr d lo hi f1 f2 f3
    have hsd := hs d f1
    cases r3 with
    | tup h1 r =>
      rename_i a xs ds
      refine .inl ⟨a, xs, rfl, same_sqt g3.s h1, fun e => ?_, fun ne p hp => ?_⟩
      · have e' : cutD ds lo hi = ds := by
          unfold cutD
          rw [r.length] at e
          rw [e.1, e.2, List.drop_zero, Nat.sub_zero, List.take_length]
        exact q _ _ _ _ gg pe3 (by show ψ (D.tup ds); rw [← e']; exact fin) (.tup h1 r)
      · have g := Grow.new (p := none) (o := HO.tup (cutV xs lo hi)) g3.s hp
        exact q _ _ _ _ (gg.trans g.up) (pe3.grow g) fin (.tup (SqT.of upd_same) ((r.cut lo hi).mono g.d))
    | lst h1 r =>
      rename_i a xs ds
      refine .inr (.inl ⟨a, xs, rfl, SqL.of (g3.s _ _ h1), fun p hp => ?_⟩)
      have g := Grow.new (p := none) (o := HO.lst (cutV xs lo hi)) g3.s hp
      exact q _ _ _ _ (gg.trans g.up) (pe3.grow g) fin (.lst upd_same ((r.cut lo hi).mono g.d))
    | str z =>
      have hz : z.length ≤ 1000000 := of_decide_eq_true hsd
      exact .inr (.inr ⟨z, rfl, by rw [sizeLine_eq]; omega, q _ _ _ _ gg pe3 fin (.str _)⟩)
    | _ => cases hsd
theorem ev_sl_ {te : TE} {tl th : TO} {Γ : List Sk} {m m1 m2 : Nat} {d : D} {lo hi : Option Int} (h : Ev c te Γ m (· = d)) (hl : EvO c tl Γ m1 (· = lo)) (hh : EvO c th Γ m2 (· = hi)) (hs : d.seq = true) : Ev c (tSl (rSlU c.K) te tl th) Γ (m + m1 + m2) (· = d.cut lo hi) :=
  ev_sl h hl hh (fun _ e => by rw [e]; exact hs) fun _ _ _ e1 e2 e3 => by rw [e1, e2, e3]
/-! calls of built-ins -/
theorem ev_cb {r : List V → Hp → VK → Prop} {ta : TA} {Γ : List Sk} {m : Nat} {ψ : List D → Prop} (h : EvA c ta Γ m ψ) (hr : ∀ ds, ψ ds → OpN c r ds φ) : Ev c (tCB r ta) Γ m φ := fun σ Hd H n s sa pe l x Q q =>
  h σ Hd H n s sa pe l x _ fun vs ds Hd1 H1 g1 pe1 f r1 => hr ds f vs Hd1 H1 g1.s r1 Q fun v d Hd2 H2 g2 f2 r2 => q v d Hd2 H2 (g1.trans g2.up) (pe1.grow g2) f2 r2
theorem ev_cb_ {r : List V → Hp → VK → Prop} {ta : TA} {Γ : List Sk} {m : Nat} {ds : List D} (h : EvA c ta Γ m (· = ds)) (hr : OpN c r ds φ) : Ev c (tCB r ta) Γ m φ := ev_cb h fun _ e => by rw [e]; exact hr
theorem on_c {r : List V → Hp → VK → Prop} {as : List D} {d : D} (h : ∀ xs Hd H, Same Hd H → Reps c.K Hd xs as → ∃ v, (∀ Q : VK, Q v H → r xs H Q) ∧ Rep c.K Hd v d) : OpN c r as (· = d) := fun xs Hd H s ra Q q => by
  obtain ⟨v, h1, h2⟩ := h xs Hd H s ra
  exact h1 Q (q v d Hd H (.refl s) rfl h2)
/-- what hands back a new list of data that is there -/
theorem on_new {r : List V → Hp → VK → Prop} {as es : List D} (h : ∀ xs Hd H, Same Hd H → Reps c.K Hd xs as → ∃ vs, (∀ Q : VK, (∀ p, H p = none → Q (.ref p) (upd H p (.lst vs))) → r xs H Q) ∧ Reps c.K Hd vs es) : OpN c r as (· = .lst es) := fun xs Hd H s ra Q q => by
  obtain ⟨vs, h1, h2⟩ := h xs Hd H s ra
  refine h1 Q fun p hp => ?_
  have g := Grow.new (p := none) (o := HO.lst vs) s hp
  exact q _ _ _ _ g rfl (.lst upd_same (h2.mono g.d))
def D.len : D → Option Nat
  | .tup ds => some ds.length | .lst ds => some ds.length | .str z => if z.length ≤ 1000000 then some z.length else none | _ => none
theorem on_len {d : D} {k : Nat} (h : d.len = some k) : OpN c (fun xs H Q => ∃ x n, xs = [x] ∧ LenV c.K x H n ∧ Q (.int n) H) [d] (· = .int k) := on_c fun xs Hd H s ra => by
  cases ra with | cons a r => cases r; cases a with
  | tup h1 r => cases h; exact ⟨_, fun Q q => ⟨_, _, rfl, .inr ⟨_, same_sqt s h1, rfl⟩, q⟩, by rw [r.length]; exact .int _⟩
  | lst h1 r => cases h; exact ⟨_, fun Q q => ⟨_, _, rfl, .inl ⟨_, SqL.of (s _ _ h1), rfl⟩, q⟩, by rw [r.length]; exact .int _⟩
  | str z =>
    by_cases hz : z.length ≤ 1000000
    · rw [show (D.str z).len = some z.length from if_pos hz] at h
      cases h; exact ⟨_, fun Q q => ⟨_, _, rfl, ⟨by rw [sizeLine_eq]; omega, rfl⟩, q⟩, .int _⟩
    · rw [show (D.str z).len = none from if_neg hz] at h; cases h
  | _ => cases h
def isiD (d : D) (T : String) : Option Bool := kitB d.ty T
theorem on_isi {d : D} {T : String} {b : Bool} (hb : d.builtin = true) (h : kitB d.ty T = some b) : ∀ xs Hd H, Same Hd H → (∃ v, Rep c.K Hd v d ∧ xs = [v, .ty T]) → ∀ Q : VK, Q (.bl b) H → rIsi c.K xs H Q := fun xs Hd H s ⟨v, r, e⟩ Q q =>
  ⟨v, .ty T, _, _, b, e, .ty T, rep_ty s hb r, kit_ty h, q⟩
/-- isinstance(e, T) -/
theorem ev_isi {te : TE} {Γ : List Sk} {m : Nat} {T : String} {d : D} {b : Bool} (h : Ev c te Γ m (· = d)) (hb : d.builtin = true) (hk : kitB d.ty T = some b) : Ev c (tCB (rIsi c.K) (tCons te (tCons (tC (.ty T)) tNil))) Γ m (· = .bl b) := fun σ Hd H n s sa pe l x Q q =>
  h σ Hd H n s sa pe l x _ fun v d' Hd1 H1 g1 pe1 e r1 => by
    subst e
    exact on_isi (c := c) hb hk _ Hd1 H1 g1.s ⟨v, r1, rfl⟩ Q (q _ _ Hd1 H1 g1 pe1 rfl (.bl b))
def kitL (t : String) : List String → Option Bool
  | [] => some false
  | T :: Ts => (kitB t T).bind fun b => if b = true then some true else kitL t Ts
theorem kitL_any {K : PySem.W.Frag} {t : String} : ∀ {Ts : List String} {b : Bool}, kitL t Ts = some b → PySem.W.kitAny K (.type t) (Ts.map Value.type) = some b
  | [], b, h => by cases h; exact kitAny_nil
  | T :: Ts, b, h => by
    unfold kitL at h
    cases z : kitB t T with
    | none => rw [z] at h; cases h
    | some k =>
      rw [z] at h
      cases k with
      | true =>
        cases h
        exact kitAny_cons (b := true) (kit_ty z) (fun e => by cases e) fun _ => rfl
      | false => exact kitAny_cons (b := false) (kit_ty z) (fun _ => kitL_any (show kitL t Ts = some b from h)) fun e => by cases e
theorem cls_all : ∀ (Ts : List String), Paired ClsV (Ts.map V.ty) (Ts.map Value.type)
  | [] => .nil
  | T :: Ts => .cons (.ty T) (cls_all Ts)
def tTys : List String → TA
  | [] => tNil
  | T :: Ts => tCons (tC (.ty T)) (tTys Ts)
theorem tTys_run : ∀ (Ts : List String) (σ : L2.St) (H : Hp) (Q : List V → Hp → Prop), Q (Ts.map V.ty) H → tTys Ts σ H Q
  | [], _, _, _, q => q
  | T :: Ts, σ, H, Q, q => tTys_run Ts σ H _ q
/-- isinstance(e, (T, ..)) -/
theorem ev_isiT {te : TE} {Γ : List Sk} {m : Nat} (Ts : List String) {d : D} {b : Bool} (h : Ev c te Γ m (· = d)) (hb : d.builtin = true) (hk : kitL d.ty Ts = some b) (hl : Ts.length ≤ 1000 := by decide) : Ev c (tCB (rIsiT c.K) (tCons te (tCons (tTup (tTys Ts)) tNil))) Γ m (· = .bl b) := fun σ Hd H n s sa pe l x Q q =>
  h σ Hd H n s sa pe l x _ fun v d' Hd1 H1 g1 pe1 e r1 => by
    subst e
    refine tTys_run Ts σ H1 _ ⟨Nat.le_of_lt (small1000 (by rw [List.length_map]; exact hl)), fun p hp => ?_⟩
    have g := Grow.new (p := none) (o := HO.tup (Ts.map V.ty)) g1.s hp
    exact ⟨v, p, _, _, _, b, rfl, upd_same, cls_all Ts, rep_ty (g.d.trans g.s) hb (r1), kitL_any hk, q _ _ _ _ (g1.trans g.up) (pe1.grow g) rfl (.bl b)⟩
/-- list(..), tuple(..) of a list or a tuple -/
def D.its : D → Option (List D)
  | .tup ds => some ds | .lst ds => some ds | _ => none
theorem on_list {d : D} {ds : List D} (h : d.its = some ds) : OpN c (fun xs H Q => ∃ p ys, xs = [.ref p] ∧ (SqL c.K H p ys ∨ SqT c.K H p ys) ∧ ∀ l, H l = none → Q (.ref l) (upd H l (.lst ys))) [d] (· = .lst ds) := on_new fun xs Hd H s ra => by
  cases ra with | cons a r => cases r; cases a with
  | tup h1 r => cases h; exact ⟨_, fun Q q => ⟨_, _, rfl, .inr (same_sqt s h1), q⟩, r⟩
  | lst h1 r => cases h; exact ⟨_, fun Q q => ⟨_, _, rfl, .inl (SqL.of (s _ _ h1)), q⟩, r⟩
  | _ => cases h
theorem on_tuple {d : D} {ds : List D} (h : d.its = some ds) : OpN c (fun xs H Q => ∃ a ys, xs = [.ref a] ∧ ((SqL c.K H a ys ∧ ∀ l, H l = none → Q (.ref l) (upd H l (.tup ys))) ∨ (SqT c.K H a ys ∧ Q (.ref a) H))) [d] (· = .tup ds) := fun xs Hd H s ra Q q => by
  cases ra with | cons a r => cases r; cases a with
  | tup h1 r => cases h; exact ⟨_, _, rfl, .inr ⟨same_sqt s h1, q _ _ _ _ (.refl s) rfl (.tup h1 r)⟩⟩
  | lst h1 r =>
    cases h
    rename_i a ys
    refine ⟨_, _, rfl, .inl ⟨SqL.of (s _ _ h1), fun p hp => ?_⟩⟩
    have g := Grow.new (p := none) (o := HO.tup ys) s hp
    exact q _ _ _ _ g rfl (.tup (SqT.of upd_same) (r.mono g.d))
  | _ => cases h
theorem on_all {bs : List Bool} : OpN c (rAll c.K) [.lst (bs.map D.bl)] (· = .bl (bs.all id)) := on_c fun xs Hd H s ra => by
  cases ra with | cons a r => cases r; cases a with | lst h1 r =>
    have e := r.of_bls; subst e
    exact ⟨_, fun Q q => ⟨_, bs, rfl, SqL.of (s _ _ h1), q⟩, .bl _⟩
theorem on_any {bs : List Bool} : OpN c (rAny c.K) [.lst (bs.map D.bl)] (· = .bl (bs.any id)) := on_c fun xs Hd H s ra => by
  cases ra with | cons a r => cases r; cases a with | lst h1 r =>
    have e := r.of_bls; subst e
    exact ⟨_, fun Q q => ⟨_, bs, rfl, SqL.of (s _ _ h1), q⟩, .bl _⟩
theorem on_sum {ns : List Int} : OpN c (rSum c.K) [.lst (ns.map D.int)] (· = .int ns.sum) := on_c fun xs Hd H s ra => by
  cases ra with | cons a r => cases r; cases a with | lst h1 r =>
    have e := r.of_ints; subst e
    exact ⟨_, fun Q q => ⟨_, ns, rfl, SqL.of (s _ _ h1), q⟩, .int _⟩
theorem on_min2 {i j : Int} : OpN c (fun xs H Q => ∃ i j, xs = [.int i, .int j] ∧ Q (.int (if j < i then j else i)) H) [.int i, .int j] (· = .int (if j < i then j else i)) := on_c fun xs Hd H s ra => by
  cases ra with | cons a r => cases r with | cons b r => cases r; cases a; cases b; exact ⟨_, fun Q q => ⟨i, j, rfl, q⟩, .int _⟩
theorem on_max2 {i j : Int} : OpN c (fun xs H Q => ∃ i j, xs = [.int i, .int j] ∧ Q (.int (if j > i then j else i)) H) [.int i, .int j] (· = .int (if j > i then j else i)) := on_c fun xs Hd H s ra => by
  cases ra with | cons a r => cases r with | cons b r => cases r; cases a; cases b; exact ⟨_, fun Q q => ⟨i, j, rfl, q⟩, .int _⟩
theorem on_int {i : Int} : OpN c (fun xs H Q => (∃ i, xs = [.int i] ∧ Q (.int i) H) ∨ ∃ k, xs = [.bl k] ∧ Q (.int (if k then 1 else 0)) H) [.int i] (· = .int i) := on_c fun xs Hd H s ra => by
  cases ra with | cons a r => cases r; cases a; exact ⟨_, fun Q q => .inl ⟨i, rfl, q⟩, .int _⟩
theorem on_strI {i : Int} (h : i.natAbs.log2 < 1920) : OpN c (fun xs H Q => ∃ i, xs = [.int i] ∧ i.natAbs.log2 < 1920 ∧ Q (.str (toString i)) H) [.int i] (· = .str (toString i)) := on_c fun xs Hd H s ra => by
  cases ra with | cons a r => cases r; cases a; exact ⟨_, fun Q q => ⟨i, rfl, h, q⟩, .str _⟩
theorem on_sortedS {ss : List Str} (h : ss.length < 64) : OpN c (rSortedS c.K) [.lst (ss.map D.str)] (fun d => ∃ ys : List Str, ys.Perm ss ∧ sortedS ys = true ∧ d = .lst (ys.map D.str)) := fun xs Hd H s ra Q q => by
  cases ra with | cons a r => cases r; cases a with | lst h1 r =>
    have e := r.of_strs; subst e
    refine ⟨_, ss, rfl, SqL.of (s _ _ h1), h, fun ys p pr so hp => ?_⟩
    have g := Grow.new (p := none) (o := HO.lst (ys.map V.str)) s hp
    exact q _ _ _ _ g ⟨ys, pr, so, rfl⟩ (.lst upd_same (reps_strs ys))
end
end DL
set_option maxRecDepth 100000
set_option maxHeartbeats 4000000
/-! DL8: repr, *, split, dicts read, sizes of data. -/
namespace DL
open PySem L2 PyProof.Rows

/-! ### repr -/
theorem call_reprD {X : Cx} (ng : NoG X.A) (hu : X.A.units + 66 < cLine) : CallR X (.builtin "repr") (fun xs H Q => ∃ v d, xs = [v] ∧ Dp X.K H v d ∧ d.canLay0 = true ∧ d.showable = true ∧ d.depth ≤ 64 ∧ d.shown.length ≤ sizeLine ∧ Q (.str d.shown) H) := by
  intro pins s σ H xs us Q I r h
  obtain ⟨v, d, rfl, hd, lay, sho, dep, len, q⟩ := h
  obtain ⟨u, rfl, ru⟩ := vals1 r
  obtain ⟨as, rd⟩ := Dp.reads I d v u hd ru
  have done : ∀ {t : Nat} {tk : Tok}, EP X pins σ Q (.str d.shown tk) { s with toks := t } := fun {t tk} => ⟨.str d.shown, H, I.tok t, ⟨tk, rfl⟩, q⟩
  cases rd with
  | none => exact PySem.P.repr_of_none done
  | bool b => exact PySem.P.repr_of_bool done
  | int i t => exact PySem.P.repr_of_int (of_decide_eq_true sho) done
  | str x t => exact PySem.P.repr_of_str done len
  | list h1 h2 h3 h4 =>
    refine repr_of_reads' (.list h1 h2 h3 h4) sho (fun z => ?_) ng (by omega) (fun _ _ z => z) (fun h' u' tk kp => ⟨.str _, H, I.kept (t' := tk) kp, ⟨u', rfl⟩, q⟩) len
    rw [PyData.hasDict_of_canLay _ lay] at z; cases z
  | tuple h1 h2 h3 h4 =>
    refine repr_of_reads' (.tuple h1 h2 h3 h4) sho (fun z => ?_) ng (by omega) (fun _ _ z => z) (fun h' u' tk kp => ⟨.str _, H, I.kept (t' := tk) kp, ⟨u', rfl⟩, q⟩) len
    rw [PyData.hasDict_of_canLay _ lay] at z; cases z
  | dict _ _ _ _ _ => cases lay

/-! ### sizes -/
mutual
/-- room for the text -/
def D.w : D → Nat
  | .non => 5 | .bl _ => 5 | .int _ => 1930 | .str s => 10 * s.length + 2
  | .lst ds => D.ws ds + 3 | .tup ds => D.ws ds + 3
  | .dct _ _ => 5 | .obj _ _ _ => 5 | .exc _ _ _ _ => 5
def D.ws : List D → Nat
  | [] => 0
  | d :: ds => D.w d + 2 + D.ws ds
end
mutual
theorem shown_w : ∀ d : D, d.py.canLay0 = true → d.py.showable = true → d.py.shown.length ≤ d.w
  | .non, _, _ => by decide
  | .bl b, _, _ => by cases b <;> decide
  | .int i, _, h => by
    have := int_text_length_le (k := 1920) (by decide) (of_decide_eq_true (show decide (i.natAbs.log2 < 1920) = true from h))
    show (Str.ofString (toString i)).length ≤ 1930
    rw [PySem.ofString_length]; omega
  | .str s, h, _ => by
    have h0 : s.cps.all (· < 0x110000) = true := h
    have := StrLaws.reprText_len s fun c hc => by
      have := (Array.all_eq_true_iff_forall_mem.mp h0) c (Array.mem_toList_iff.mp hc)
      have := of_decide_eq_true this
      have e : (16 : Nat) ^ 8 = 4294967296 := by decide
      omega
    show (reprText s).length ≤ 10 * s.length + 2
    omega
  | .lst ds, h, h2 => by
    have := shown_ws ds h h2
    have := listText_len_le (PyData.shownAll (D.pys ds))
    show (listText (PyData.shownAll (D.pys ds))).length ≤ D.ws ds + 3
    omega
  | .tup ds, h, h2 => by
    have := shown_ws ds h h2
    have := tupleText_len_le (PyData.shownAll (D.pys ds))
    show (tupleText (PyData.shownAll (D.pys ds))).length ≤ D.ws ds + 3
    omega
  | .dct _ _, _, _ => (show (PyData.shown PyData.none).length ≤ 5 by decide)
  | .obj _ _ _, _, _ => (show (PyData.shown PyData.none).length ≤ 5 by decide)
  | .exc _ _ _ _, _, _ => (show (PyData.shown PyData.none).length ≤ 5 by decide)
theorem shown_ws : ∀ ds : List D, PyData.canLayAll0 (D.pys ds) = true → PyData.showableAll (D.pys ds) = true → ((PyData.shownAll (D.pys ds)).map (·.length)).sum + 2 * (PyData.shownAll (D.pys ds)).length ≤ D.ws ds
  | [], _, _ => by decide
  | d :: ds, h, h2 => by
    have h' := Bool.and_eq_true_iff.mp (show (d.py.canLay0 && PyData.canLayAll0 (D.pys ds)) = true from h)
    have h2' := Bool.and_eq_true_iff.mp (show (d.py.showable && PyData.showableAll (D.pys ds)) = true from h2)
    have a := shown_w d h'.1 h2'.1
    have b := shown_ws ds h'.2 h2'.2
    show ((d.py.shown :: PyData.shownAll (D.pys ds)).map (·.length)).sum + 2 * (d.py.shown :: PyData.shownAll (D.pys ds)).length ≤ D.w d + 2 + D.ws ds
    rw [List.map_cons, List.sum_cons, List.length_cons]
    omega
end

/-- good data: plain, small (n), not deep (k) -/
structure GD (k n : Nat) (d : D) : Prop where
  pl : d.plain = true
  lay : d.py.canLay0 = true
  sh : d.py.showable = true
  dep : d.py.depth ≤ k
  w : d.w ≤ n
structure GDs (k n : Nat) (ds : List D) : Prop where
  pl : D.plains ds = true
  lay : PyData.canLayAll0 (D.pys ds) = true
  sh : PyData.showableAll (D.pys ds) = true
  dep : PyData.depthAll (D.pys ds) ≤ k
  w : D.ws ds ≤ n
section
variable {k n k' n' : Nat} {d : D} {ds : List D}
theorem GD.mono (h : GD k n d) (a : k ≤ k') (b : n ≤ n') : GD k' n' d := ⟨h.pl, h.lay, h.sh, Nat.le_trans h.dep a, Nat.le_trans h.w b⟩
theorem GDs.mono (h : GDs k n ds) (a : k ≤ k') (b : n ≤ n') : GDs k' n' ds := ⟨h.pl, h.lay, h.sh, Nat.le_trans h.dep a, Nat.le_trans h.w b⟩
theorem GDs.nil : GDs k n [] := ⟨rfl, rfl, rfl, Nat.zero_le _, Nat.zero_le _⟩
theorem GDs.cons (h : GD k n d) (r : GDs k n' ds) : GDs k (n + 2 + n') (d :: ds) :=
  ⟨by show (d.plain && D.plains ds) = true; rw [h.pl, r.pl]; rfl, by show (d.py.canLay0 && PyData.canLayAll0 (D.pys ds)) = true; rw [h.lay, r.lay]; rfl, by show (d.py.showable && PyData.showableAll (D.pys ds)) = true; rw [h.sh, r.sh]; rfl,
    by show max d.py.depth (PyData.depthAll (D.pys ds)) ≤ k; exact Nat.max_le.mpr ⟨h.dep, r.dep⟩, by have := h.w; have := r.w; show D.w d + 2 + D.ws ds ≤ n + 2 + n'; omega⟩
theorem GDs.all : ∀ {ds : List D}, (∀ d ∈ ds, GD k n d) → GDs k (ds.length * (n + 2)) ds
  | [], _ => GDs.nil
  | d :: ds, h => by
    have := GDs.cons (h d List.mem_cons_self) (GDs.all fun e he => h e (List.mem_cons_of_mem _ he))
    exact this.mono (Nat.le_refl _) (by rw [List.length_cons, Nat.succ_mul]; omega)
theorem GDs.tup (h : GDs k n ds) : GD (k + 1) (n + 3) (.tup ds) := ⟨h.pl, h.lay, h.sh, Nat.succ_le_succ h.dep, by have := h.w; show D.ws ds + 3 ≤ n + 3; omega⟩
theorem GDs.lst (h : GDs k n ds) : GD (k + 1) (n + 3) (.lst ds) := ⟨h.pl, h.lay, h.sh, Nat.succ_le_succ h.dep, by have := h.w; show D.ws ds + 3 ≤ n + 3; omega⟩
theorem GD.tups (h : GD k n (.tup ds)) : GDs (k - 1) n ds := ⟨h.pl, h.lay, h.sh, by have := h.dep; have e : (D.tup ds).py.depth = PyData.depthAll (D.pys ds) + 1 := rfl; omega, by have := h.w; have e : (D.tup ds).w = D.ws ds + 3 := rfl; omega⟩
theorem GD.lsts (h : GD k n (.lst ds)) : GDs (k - 1) n ds := ⟨h.pl, h.lay, h.sh, by have := h.dep; have e : (D.lst ds).py.depth = PyData.depthAll (D.pys ds) + 1 := rfl; omega, by have := h.w; have e : (D.lst ds).w = D.ws ds + 3 := rfl; omega⟩
theorem GDs.head (h : GDs k n (d :: ds)) : GD k n d := by
  have h1 := Bool.and_eq_true_iff.mp (show (d.plain && D.plains ds) = true from h.pl)
  have h2 := Bool.and_eq_true_iff.mp (show (d.py.canLay0 && PyData.canLayAll0 (D.pys ds)) = true from h.lay)
  have h3 := Bool.and_eq_true_iff.mp (show (d.py.showable && PyData.showableAll (D.pys ds)) = true from h.sh)
  have h4 := Nat.max_le.mp (show max d.py.depth (PyData.depthAll (D.pys ds)) ≤ k from h.dep)
  have h5 : D.w d + 2 + D.ws ds ≤ n := h.w
  exact ⟨h1.1, h2.1, h3.1, h4.1, by omega⟩
theorem GDs.tail (h : GDs k n (d :: ds)) : GDs k n ds := by
  have h1 := Bool.and_eq_true_iff.mp (show (d.plain && D.plains ds) = true from h.pl)
  have h2 := Bool.and_eq_true_iff.mp (show (d.py.canLay0 && PyData.canLayAll0 (D.pys ds)) = true from h.lay)
  have h3 := Bool.and_eq_true_iff.mp (show (d.py.showable && PyData.showableAll (D.pys ds)) = true from h.sh)
  have h4 := Nat.max_le.mp (show max d.py.depth (PyData.depthAll (D.pys ds)) ≤ k from h.dep)
  have h5 : D.w d + 2 + D.ws ds ≤ n := h.w
  exact ⟨h1.2, h2.2, h3.2, h4.2, by omega⟩
theorem GDs.mem : ∀ {ds : List D}, GDs k n ds → ∀ d ∈ ds, GD k n d
  | [], _, d, h => by simp at h
  | e :: ds, g, d, h => by
    rcases List.mem_cons.mp h with rfl | h
    · exact g.head
    · exact g.tail.mem d h
theorem GDs.app : ∀ {ds es : List D} {n n' : Nat}, GDs k n ds → GDs k n' es → GDs k (n + n') (ds ++ es)
  | [], _, _, _, _, h => h.mono (Nat.le_refl _) (by omega)
  | d :: ds, es, n, n', g, h => by
    have w1 : D.w d + 2 + D.ws ds ≤ n := g.w
    have q := GDs.cons (n := D.w d) (d := d) ⟨g.head.pl, g.head.lay, g.head.sh, g.head.dep, Nat.le_refl _⟩ ((GDs.app (n := D.ws ds) ⟨g.tail.pl, g.tail.lay, g.tail.sh, g.tail.dep, Nat.le_refl _⟩ h))
    exact q.mono (Nat.le_refl _) (by omega)
theorem GDs.take (i : Nat) : ∀ {ds : List D} {n : Nat}, GDs k n ds → GDs k n (ds.take i) := by
  induction i with
  | zero => intro ds n _; rw [List.take_zero]; exact GDs.nil
  | succ i ih =>
    intro ds n h
    cases ds with
    | nil => exact GDs.nil
    | cons d ds =>
      rw [List.take_succ_cons]
      have w1 : D.w d + 2 + D.ws ds ≤ n := h.w
      have q := GDs.cons (n := D.w d) (d := d) ⟨h.head.pl, h.head.lay, h.head.sh, h.head.dep, Nat.le_refl _⟩ (ih (n := D.ws ds) ⟨h.tail.pl, h.tail.lay, h.tail.sh, h.tail.dep, Nat.le_refl _⟩)
      exact q.mono (Nat.le_refl _) (by omega)
theorem GDs.drop (i : Nat) : ∀ {ds : List D}, GDs k n ds → GDs k n (ds.drop i) := by
  induction i with
  | zero => intro ds h; exact h
  | succ i ih =>
    intro ds h
    cases ds with
    | nil => exact GDs.nil
    | cons d ds => exact ih h.tail
theorem GDs.cut (lo hi : Option Int) (h : GDs k n ds) : GDs k n (cutD ds lo hi) := (h.drop _).take _
theorem GD.ok (h : GD k n d) (hk : k ≤ 64 := by decide) : d.ok = true := by
  unfold D.ok SeqAt.shaped
  rw [h.pl, h.lay, decide_eq_true (Nat.le_trans h.dep hk)]; rfl
theorem GD.int {i : Int} (hk : i.natAbs.log2 < 1920 := by decide) (b : 1930 ≤ n := by decide) : GD k n (.int i) := ⟨rfl, rfl, decide_eq_true hk, Nat.zero_le _, b⟩
theorem GD.bl {b : Bool} (h : 5 ≤ n := by decide) : GD k n (.bl b) := ⟨rfl, rfl, rfl, Nat.zero_le _, h⟩
theorem GD.non (h : 5 ≤ n := by decide) : GD k n .non := ⟨rfl, rfl, rfl, Nat.zero_le _, h⟩
theorem GD.str {s : Str} (h : PyData.strOk s = true) (b : 10 * s.length + 2 ≤ n) : GD k n (.str s) := ⟨rfl, h, rfl, Nat.zero_le _, b⟩
theorem GD.strOk {s : Str} (h : GD k n (.str s)) : PyData.strOk s = true := h.lay
theorem GD.strLen {s : Str} (h : GD k n (.str s)) : 10 * s.length + 2 ≤ n := h.w
end
section
variable {c : Ct} {φ : D → Prop}
def rReprD (K : PySem.W.Frag) : List V → Hp → VK → Prop := fun xs H Q => ∃ v d, xs = [v] ∧ Dp K H v d ∧ d.canLay0 = true ∧ d.showable = true ∧ d.depth ≤ 64 ∧ d.shown.length ≤ sizeLine ∧ Q (.str d.shown) H
theorem on_repr {d : D} {k n : Nat} (g : GD k n d) (hk : k ≤ 64 := by decide) (hn : n ≤ 16000000 := by decide) : OpN c (rReprD c.K) [d] (· = .str d.py.shown) := on_c fun xs Hd H s ra => by
  cases ra with | cons a r => cases r; exact ⟨_, fun Q q => ⟨_, d.py, rfl, (a.mono s).dp g.pl, g.lay, g.sh, Nat.le_trans g.dep hk, by have := shown_w d g.lay g.sh; have := g.w; rw [sizeLine_eq]; omega, q⟩, .str _⟩
/-! * -/
theorem op_mulS {X : Cx} : OpR X (binaryOp .Mult) (fun x y H Q => ∃ z n, x = .str z ∧ y = .int n ∧ 0 ≤ n ∧ n ≤ 1000 ∧ z.length ≤ 1000 ∧ Q (.str (Txt.mul z n)) H) := by
  intro pins s σ H x y v u Q I rx ry h
  obtain ⟨z, n, rfl, rfl, h0, h1, h2, q⟩ := h
  obtain ⟨t, rfl⟩ := rx
  obtain ⟨t2, rfl⟩ := ry
  refine SB.mul ⟨?_, fun _ _ => ?_, fun _ _ => ?_⟩ fun t' k => ⟨.str _, H, I.tok k, ⟨t', rfl⟩, q⟩
  · rw [decide_eq_false (by omega), decide_eq_false (by omega)]; rfl
  · have hn : 1 ≤ n ∨ n < 1 := by omega
    rcases hn with hn | hn
    · have : (2 ^ 63 - 1) / n ≥ (2 ^ 63 - 1) / 1000 := by
        rw [ge_iff_le, Int.le_ediv_iff_mul_le (by omega)]
        have : ((2:Int) ^ 63 - 1) / 1000 * n ≤ (2 ^ 63 - 1) / 1000 * 1000 := Int.mul_le_mul_of_nonneg_left h1 (by decide)
        have e : ((2:Int) ^ 63 - 1) / 1000 * 1000 ≤ 2 ^ 63 - 1 := by decide
        omega
      have e : ((2:Int) ^ 63 - 1) / 1000 = 9223372036854775 := by decide
      omega
    · omega
  · unfold Builtin.Str.tooLong
    have : z.length * n.toNat ≤ 1000 * 1000 := Nat.mul_le_mul h2 (by omega)
    rw [decide_eq_false]
    rw [sizeLine_eq]; omega
def rMulU (K : PySem.W.Frag) : R2 := fun x y H Q => rI CMul (fun i j => .int (i * j)) x y H Q ∨ (∃ z n, x = .str z ∧ y = .int n ∧ 0 ≤ n ∧ n ≤ 1000 ∧ z.length ≤ 1000 ∧ Q (.str (Txt.mul z n)) H) ∨ rRep x y H Q
theorem op_mulU {X : Cx} : OpR X (binaryOp .Mult) (rMulU X.K) := OpR.or op_mul (OpR.or op_mulS op_rep)
theorem o2_mulI {i j : Int} (h : CMul i j) : Op2 c (rMulU c.K) (.int i) (.int j) (· = .int (i * j)) := fun x y Hd H s ra rb Q q => .inl (o2_IC h x y Hd H s ra rb Q q)
theorem o2_mulS {z : Str} {n : Int} (h : 0 ≤ n ∧ n ≤ 1000 ∧ z.length ≤ 1000) : Op2 c (rMulU c.K) (.str z) (.int n) (· = .str (Txt.mul z n)) := o2_c fun x y Hd H s ra rb => by
  cases ra; cases rb
  exact ⟨_, fun Q q => .inr (.inl ⟨z, n, rfl, rfl, h.1, h.2.1, h.2.2, q⟩), .str _⟩
theorem o2_mulL {ds : List D} {n : Int} (h : 0 ≤ n ∧ n ≤ 1000 ∧ ds.length ≤ 1000) : Op2 c (rMulU c.K) (.lst ds) (.int n) (· = .lst (List.replicate n.toNat ds).flatten) := fun x y Hd H s ra rb Q q => by
  cases rb
  cases ra with | lst h1 r =>
  rename_i a xs
  have e : xs.length * n.toNat ≤ 1000 * 1000 := Nat.mul_le_mul (by rw [r.length]; exact h.2.2) (by omega)
  refine .inr (.inr ⟨a, n, xs, rfl, rfl, s _ _ h1, by omega, by omega, by rw [sizeLine_eq]; omega, fun p hp => ?_⟩)
  have g := Grow.new (p := none) (o := HO.lst (List.replicate n.toNat xs).flatten) s hp
  exact q _ _ _ _ g rfl (.lst upd_same ((r.rep n.toNat).mono g.d))
/-! split -/
def rSplitD : V → List V → Hp → VK → Prop := fun x xs H Q => ∃ a b, x = .str a ∧ xs = [.str b] ∧ (b.length == 0) = false ∧ a.length + 2 ≤ sizeLine ∧ rNewStrs (Txt.split a b) H Q
theorem ev_split {to te : TE} {Γ : List Sk} {m m1 : Nat} {a b : Str} (h : Ev c to Γ m (· = .str a)) (h2 : Ev c te Γ m1 (· = .str b)) (hb : (b.length == 0) = false) (ha : a.length ≤ 1000000) : Ev c (tM1 rSplitD to te) Γ (m + m1) (· = .lst ((Txt.split a b).map .str)) := fun σ Hd H n s sa pe l x Q q =>
  h σ Hd H n s sa pe (by omega) x _ fun v d Hd1 H1 g1 pe1 e r1 => by
    subst e; cases r1
    refine ⟨⟨a, rfl⟩, h2 σ Hd1 H1 _ (s.grow g1) g1.s pe1 (by omega) (x.grow g1) _ fun v d Hd2 H2 g2 pe2 e r2 => ?_⟩
    subst e; cases r2
    refine ⟨a, b, rfl, rfl, hb, by rw [sizeLine_eq]; omega, fun p hp => ?_⟩
    have g := Grow.new (p := none) (o := HO.lst ((Txt.split a b).map V.str)) g2.s hp
    exact q _ _ _ _ ((g1.trans g2).trans g.up) (by rw [← Nat.add_assoc]; exact pe2.grow g) rfl (.lst upd_same (reps_strs _))
/-! dicts read -/
def keyD : Key → D
  | .inl i => .int i | .inr x => .str x
def valD : List Key → List D → Key → Option D
  | k :: ks, d :: ds, j => if k = j then some d else valD ks ds j
  | _, _, _ => none
theorem valV_zip {K : PySem.W.Frag} {H : Hp} {j : Key} : ∀ {ks : List Key} {xs : List V} {ds : List D}, Reps K H xs ds → ∀ {d : D}, valD ks ds j = some d → ∃ v, valV (ks.zip xs) j = some v ∧ Rep K H v d
  | [], _, _, _, d, h => by unfold valD at h; cases h
  | k :: ks, _, _, .nil, d, h => by unfold valD at h; cases h
  | k :: ks, x :: xs, e :: ds, .cons h1 r, d, h => by
    rw [List.zip_cons_cons]
    by_cases z : k = j
    · rw [show valD (k :: ks) (e :: ds) j = some e from if_pos z] at h
      cases h
      exact ⟨x, valV_pos (p := (k, x)) z, h1⟩
    · rw [show valD (k :: ks) (e :: ds) j = valD ks ds j from if_neg z] at h
      obtain ⟨v, q1, q2⟩ := valV_zip r h
      exact ⟨v, by rw [valV_neg (p := (k, x)) z]; exact q1, q2⟩
theorem ev_dget {td ty : TE} {Γ : List Sk} {m m1 : Nat} {ks : List Key} {ds : List D} {j : Key} {d : D} (h : Ev c td Γ m (· = .dct ks ds)) (h2 : Ev c ty Γ m1 (· = keyD j)) (hv : valD ks ds j = some d) : Ev c (tDGet td ty) Γ (m + m1) (· = d) := fun σ Hd H n s sa pe l x Q q =>
  h σ Hd H n s sa pe (by omega) x _ fun v d' Hd1 H1 g1 pe1 e r1 => h2 σ Hd1 H1 _ (s.grow g1) g1.s pe1 (by omega) (x.grow g1) _ fun v2 d2 Hd2 H2 g2 pe2 e2 r2 => by
    subst e; subst e2
    cases r1 with | dct z1 z2 z3 =>
    obtain ⟨w, q1, q2⟩ := valV_zip (z3.mono g2.d) hv
    have ek : v2 = kV j := by cases j <;> (cases r2; rfl)
    subst ek
    exact ⟨_, w, rfl, by rw [← q1]; exact DGet.k (g2.s _ _ (g2.d _ _ z1)), q w _ Hd2 H2 (g1.trans g2) (by rw [← Nat.add_assoc]; exact pe2) rfl q2⟩
/-- a written dict -/
def tPs : List (Str × TE) → List (TE × TE)
  | [] => []
  | (k, t) :: r => (tC (.str k), t) :: tPs r
end
end DL
set_option maxRecDepth 100000
set_option maxHeartbeats 4000000
/-! DL9: defs by name (Cal), unpacking, the pen's own dict. -/
namespace DL
open PySem L2 PyProof.Rows

/-- a def of the text, found by its name, that keeps a promise; ds: its defaults -/
structure Cal (P : Program) (w : World) (K : PySem.W.Frag) (mg : Str → Option Value) (base : Heap) (x : Str) (k : Nat) (ps : List Str) (dvs : List V) (sp : Sp) : Prop where
  ex : ∃ f fd ds, FnG P w K mg base CX0 k f fd ps sp ∧ mg x = some (.ref f) ∧ PySem.W.keepIn K (.ref f) = true ∧ Binds K fd ps ds ∧ Vals dvs ds
/-- the def as it stands -/
structure Def (K : PySem.W.Frag) (mg : Str → Option Value) (x : Str) (st : Stmt) (ps : List Str) (dvs : List V) : Prop where
  ex : ∃ f fd ds, FunV K x x st f fd ∧ mg x = some (.ref f) ∧ Binds K fd ps ds ∧ Vals dvs ds
section
variable {P : Program} {w : World} {K : PySem.W.Frag} {mg : Str → Option Value} {base : Heap} {x : Str} {k : Nat} {ps N : List Str} {dvs : List V} {sp : Sp} {st : Stmt} {pre : List D → Prop} {post : List D → D → Prop} {m : Nat}
theorem Cal.mono {j : Nat} (C : Cal P w K mg base x j ps dvs sp) (h : j ≤ k) : Cal P w K mg base x k ps dvs sp := by
  obtain ⟨f, fd, ds, F, r⟩ := C.ex
  exact ⟨f, fd, ds, F.mono h, r⟩
theorem cal_P (Df : Def K mg x st ps dvs) (S : FnScope N ps (defScope st)) (hl : ∀ ds, pre ds → ds.length = ps.length)
    (hb : ∀ (f : Addr) (cdv : Value) (A : Around) (outer : List Env) (s : Shared) (H : Hp) (E : XK), Room k (A.deeper (envOfC x (defScope st) s.heap.objs.size f cdv)) → NoG (A.deeper (envOfC x (defScope st) s.heap.objs.size f cdv)) → ∀ ds, pre ds →
      ∃ t, PSs (cxOf CX0 P w K mg base N x (defScope st) f cdv A outer s H E).nox (defBody st) t ∧ ∀ p, Wp ⟨K, p, L2.E0, fun _ _ => False⟩ t (G0 N ds) 0 (retW (post ds))) : Cal P w K mg base x (k + 1) ps dvs (SpP K pre post) := by
  obtain ⟨f, fd, ds, F, hm, b, v⟩ := Df.ex
  exact ⟨f, fd, ds, fn_P F S hl (hb f), hm, F.kp, b, v⟩
theorem cal_G (Df : Def K mg x st ps dvs) (S : FnScope N ps (defScope st)) (hl : ∀ ds, pre ds → ds.length + 1 = ps.length)
    (hb : ∀ (f : Addr) (cdv : Value) (A : Around) (outer : List Env) (s : Shared) (H : Hp) (E : XK), Room k (A.deeper (envOfC x (defScope st) s.heap.objs.size f cdv)) → NoG (A.deeper (envOfC x (defScope st) s.heap.objs.size f cdv)) → ∀ ds, pre ds →
      ∃ t, PSs (cxOf CX0 P w K mg base N x (defScope st) f cdv A outer s H E).nox (defBody st) t ∧ ∀ a cc, Wp ⟨K, some (a, cc), L2.E0, fun _ _ => False⟩ t (G1 N ds) m (retW (post ds))) : Cal P w K mg base x (k + 1) ps dvs (SpG K m pre post) := by
  obtain ⟨f, fd, ds, F, hm, b, v⟩ := Df.ex
  exact ⟨f, fd, ds, fn_G F S hl (hb f), hm, F.kp, b, v⟩
theorem cal_raw (Df : Def K mg x st ps dvs) (S : FnScope N ps (defScope st)) (len : ∀ vs H Q E, sp vs H Q E → vs.length = ps.length)
    (hb : ∀ (f : Addr) (cdv : Value) (A : Around) (outer : List Env) (s : Shared) (H : Hp) (vs : List V) (Q : VK) (E : XK), Room k (A.deeper (envOfC x (defScope st) s.heap.objs.size f cdv)) → NoG (A.deeper (envOfC x (defScope st) s.heap.objs.size f cdv)) → sp vs H Q E →
      ∃ t, PSs (cxOf CX0 P w K mg base N x (defScope st) f cdv A outer s H E).nox (defBody st) t ∧ t { nx := fun _ H' => Q .non H', rt := Q } (L2.start N vs) H) : Cal P w K mg base x (k + 1) ps dvs sp := by
  obtain ⟨f, fd, ds, F, hm, b, v⟩ := Df.ex
  refine ⟨f, fd, ds, fng_of F S len fun cdv A outer s H vs Q E r ng h => ?_, hm, F.kp, b, v⟩
  obtain ⟨t, h1, h2⟩ := hb f cdv A outer s H vs Q E r ng h
  exact ⟨t, h1.nox, h2⟩
end
section
variable {X : Cx} {x : Str} {k j : Nat} {ps : List Str} {dvs : List V} {sp : Sp} {e : Expr} {es : List Expr} {t : TA} {p pos : Pos}
theorem peg_cal (C : Cal X.prog X.w X.K X.mg X.base x j ps dvs sp) (hr : Room k X.A) (hj : j ≤ k) (ng : NoG X.A) (hg : Gl X x) (ha : PA X (e :: es) t)
    (h1 : (x == ("__debug__" : Str)) = false := by decide) (h2 : starEach (e :: es) X.env = (false, eval e X.env) :: starEach es X.env := by rfl) (h3 : (backTo pos (starEach es X.env)).any (·.1) = false := by rfl) : PE X (.Call (.Name x p) (e :: es) [] pos) (tCall sp dvs L2.E0 t) := by
  obtain ⟨f, fd, ds, F, hm, kp, b, v⟩ := C.ex
  exact peg_call F (hr.mono hj) ng hg hm kp b v pass0 ha h1 h2 h3
theorem peg_cal0 (C : Cal X.prog X.w X.K X.mg X.base x j ps dvs sp) (hr : Room k X.A) (hj : j ≤ k) (ng : NoG X.A) (hg : Gl X x) (h1 : (x == ("__debug__" : Str)) = false := by decide) : PE X (.Call (.Name x p) [] [] pos) (tCall sp dvs L2.E0 tNil) := by
  obtain ⟨f, fd, ds, F, hm, kp, b, v⟩ := C.ex
  exact peg_call0 F (hr.mono hj) ng hg hm kp b v pass0 h1
/-- a name of the module -/
theorem pe_globE {x : Str} {v : V} {pos : Pos} (hg : Gl X x) (h : ∃ u, X.mg x = some u ∧ RelV v u) (hd : (x == ("__debug__" : Str)) = false := by decide) : PE X (.Name x pos) (tC v) := by
  obtain ⟨u, h1, h2⟩ := h
  exact pe_glob hg h1 h2 hd
end
/-! ### a, b, .. = a list or a tuple -/
def gSeq (K : PySem.W.Frag) (n : Nat) (t : TGs) : TG := fun v σ H Q => gTup K n t v σ H Q ∨ gUnl K n t v σ H Q
theorem pg_seq {X : Cx} {pos : Pos} {es : List Expr} {k : Nat} {t : TGs} {n : Nat} (hc : X.calm = true) (h : PGs X es t) (hn : (assignEach es X.env).length = n := by rfl) (hst : (assignEach es X.env).findIdx? (·.1) = none := by rfl) : PG X (.Tuple es k pos) (gSeq X.K n t) :=
  ⟨fun pins s σ H v u Q I r q => q.elim (fun q => (pg_tup (pos := pos) (k := k) hc h hn hst).run pins s σ H v u Q I r q) fun q => (pg_unl (pos := pos) (k := k) hc h hn hst).run pins s σ H v u Q I r q⟩
section
variable {c : Ct} {Γ : List Sk} {m m1 m2 : Nat} {te : TE} {u : TS} {W : Wh}
theorem tg_seq {gs : TGs} {d : D} {ds : List D} {ps : List (Nat × D)} {n : Nat} (e : d.its = some ds) (h : TgDs c gs ds ps) (hn : ds.length = n := by rfl) : TgD c (gSeq c.K n gs) d ps := fun σ Hd H v Γ s sa r Q q => by
  cases r with
  | tup h1 r => cases e; exact .inl ⟨_, _, rfl, same_sqt sa h1, by rw [r.length, hn], h σ Hd H _ Γ s sa r Q q⟩
  | lst h1 r => cases e; exact .inr ⟨_, _, rfl, SqL.of (sa _ _ h1), by rw [r.length, hn], h σ Hd H _ Γ s sa r Q q⟩
  | _ => cases e
/-- target = e -/
theorem wp_asgT {g : TG} {φ : D → Prop} (h : Ev c te Γ m φ) (k : ∀ d, φ d → ∃ ps, TgD c g d ps ∧ W.N (setD Γ ps)) : Wp c (tAsg te g) Γ m W := fun Hb Hd0 H0 σ Hd H n o l x E k1 k2 k3 k4 =>
  h σ Hd H n o.sr o.g.s o.pe l (x.grow o.g) _ fun v d Hd' H' g' pe f r => by
    obtain ⟨ps, tg, w⟩ := k d f
    have o' := o.grow g' pe
    exact tg σ Hd' H' v Γ o'.sr o'.g.s r _ fun σ' s' _ q => k1 _ _ _ _ w (o'.tg s' q)
theorem wq_asgT {g : TG} {φ : D → Prop} (h : Ev c te Γ m1 φ) (k : ∀ d, φ d → ∃ ps, TgD c g d ps ∧ Wp c u (setD Γ ps) m2 W) : Wp c (tSeq (tAsg te g) u) Γ (m1 + m2) W := wp_seqW (N' := fun G => Wp c u G m2 W) (wp_asgT h k) fun _ w => w
/-- a, b = e, f -/
theorem wq_par {i j : Nat} {ta : TA} {ψ : List D → Prop} (h : EvA c ta Γ m1 ψ) (k : ∀ ds, ψ ds → ∃ a b, ds = [a, b] ∧ Wp c u ((Γ.set i (.dat a)).set j (.dat b)) m2 W) : Wp c (tSeq (tPar i j ta) u) Γ (m1 + m2) W :=
  wp_seqW (N' := fun G => Wp c u G m2 W) (fun Hb Hd0 H0 σ Hd H n o l x E k1 k2 k3 k4 => h σ Hd H n o.sr o.g.s o.pe l (x.grow o.g) _ fun vs ds Hd' H' g pe f r => by
    obtain ⟨a, b, e, w⟩ := k ds f
    subst e
    cases r with | cons ra r => cases r with | cons rb r => cases r; exact ⟨_, _, rfl, k1 _ _ _ _ w (((o.grow g pe).set ra).set rb)⟩) fun _ w => w
theorem wq_par_ {i j : Nat} {ta : TA} {a b : D} (h : EvA c ta Γ m1 (· = [a, b])) (k : Wp c u ((Γ.set i (.dat a)).set j (.dat b)) m2 W) : Wp c (tSeq (tPar i j ta) u) Γ (m1 + m2) W := wq_par h fun _ e => ⟨a, b, e, k⟩
/-- calls with defaults -/
theorem ev_callD {K : PySem.W.Frag} {ta : TA} {E : XK} {pre : List D → Prop} {post : List D → D → Prop} {ds : List D} {dvs : List V} {des : List D} {r : D} (hd : ∀ H, Reps c.K H dvs des) (h : EvA c ta Γ m (· = ds)) (hp : pre (ds ++ des)) (hq : ∀ d, post (ds ++ des) d → d = r) (hK : K = c.K := by rfl) : Ev c (tCall (SpP K pre post) dvs E ta) Γ m (· = r) := fun σ Hd H n s sa pe l x Q q =>
  h σ Hd H n s sa pe l x _ fun vs ds' Hd1 H1 g1 pe1 f rr => by
    subst hK; subst f
    exact ⟨Hd1, ds' ++ des, g1.s, rr.append (hd Hd1), hp, fun v d Hd2 H2 g2 f2 r2 => q v d Hd2 H2 (g1.trans g2.up) (pe1.grow g2) (hq d f2) r2⟩
end
/-! ### the pen's dict -/
section
variable {cc : Addr} {i dg ct fd v : Int}
theorem pen_cells : valV (penKvs cc i dg ct fd) (.inr "cells") = some (.ref cc) := rfl
theorem pen_at : valV (penKvs cc i dg ct fd) (.inr "at") = some (.int i) := rfl
theorem pen_digits : valV (penKvs cc i dg ct fd) (.inr "digits") = some (.int dg) := rfl
theorem pen_count : valV (penKvs cc i dg ct fd) (.inr "count") = some (.int ct) := rfl
theorem pen_fold : valV (penKvs cc i dg ct fd) (.inr "fold") = some (.int fd) := rfl
theorem put_at : putK (penKvs cc i dg ct fd) (.inr "at") (.int v) = penKvs cc v dg ct fd := rfl
theorem put_digits : putK (penKvs cc i dg ct fd) (.inr "digits") (.int v) = penKvs cc i v ct fd := rfl
theorem put_count : putK (penKvs cc i dg ct fd) (.inr "count") (.int v) = penKvs cc i dg v fd := rfl
theorem put_fold : putK (penKvs cc i dg ct fd) (.inr "fold") (.int v) = penKvs cc i dg ct v := rfl
end
end DL
set_option maxRecDepth 100000
set_option maxHeartbeats 4000000
/-! DLpen: how the pen is made and how it draws, whatever the law's text is called. -/
namespace DL
open PySem L2 PyProof.Rows
abbrev preDraw : List D → Prop := fun ds => ∃ n : Int, ds = [.int n] ∧ 0 < n ∧ n < 1073741824
abbrev postDraw : List D → D → Prop := fun ds d => ∃ n r : Int, ds = [.int n] ∧ d = .int r ∧ 0 ≤ r ∧ r < n
abbrev tG (k : Str) : TE := tDGet (tVar 0) (tC (.str k))
abbrev tI (i : Int) : TE := tC (.int i)
abbrev tIntC (t : TE) : TE := tCB (fun xs H Q => (∃ i, xs = [V.int i] ∧ Q (V.int i) H) ∨ ∃ k, xs = [V.bl k] ∧ Q (V.int (if k = true then 1 else 0)) H) (tCons t tNil)
abbrev tPw (a b : Int) : TE := tOp (rI CPow fun i j => V.int (i ^ j.toNat)) (tI a) (tI b)
abbrev tMd (a b : TE) : TE := tOp (rI (fun x j => 0 < j) fun i j => V.int (i % j)) a b
abbrev tDv (a b : TE) : TE := tOp (rI CDiv fun i j => V.int (i / j)) a b
abbrev tDraw (K : PySem.W.Frag) : TS :=
  tSeq (sDPut (tVar 0) (tC (.str "count")) (tOp (rAddU K) (tG "count") (tI 1)))
   (tSeq (tIfS (tAnd (tTest (tOp (rEqD K) (tG "digits") (tI 0))) (tTest (tOp (rI0 fun i j => V.bl (decide (i < j))) (tG "at") (tCB (fun xs H Q => ∃ x n, xs = [x] ∧ LenV K x H n ∧ Q (V.int n) H) (tCons (tG "cells") tNil)))))
      (tSeq (tAsg (tOp (rIx K) (tG "cells") (tG "at")) (gName 2))
       (tSeq (sDPut (tVar 0) (tC (.str "at")) (tOp (rAddU K) (tG "at") (tI 1)))
        (tIfS (tTest (tOp (rI0 fun i j => V.bl (decide (j ≤ i))) (tVar 2) (tPw 10 18)))
          (sDPut (tVar 0) (tC (.str "digits")) (tOp (rI0 fun i j => V.int (i - j)) (tVar 2) (tPw 10 18)))
          (sDPut (tVar 0) (tC (.str "fold")) (tMd (tIntC (tOp (rAddU K) (tOp (rMulU K) (tG "fold") (tI 71473)) (tVar 2))) (tI 2147483587))))))
      tNext)
    (tSeq (tIfS (tTest (tOp (rI0 fun i j => V.bl (decide (j < i))) (tG "digits") (tI 0)))
       (tSeq (tAsg (tMd (tIntC (tG "digits")) (tVar 1)) (gName 3)) (tSeq (sDPut (tVar 0) (tC (.str "digits")) (tDv (tG "digits") (tVar 1))) (tRet (tVar 3))))
       tNext)
     (tSeq (tAsg (tOp (rAddU K) (tOp (rAddU K) (tG "fold") (tOp (rMulU K) (tG "count") (tI 7907))) (tI 67)) (gName 4))
      (tRet (tMd (tDv (tIntC (tMd (tOp (rI CPow fun i j => V.int (i ^ j.toNat)) (tVar 4) (tI 17)) (tI 2305843009213693951))) (tI 128)) (tVar 1))))))
section
variable {K : PySem.W.Frag} {σ : L2.St} {H : Hp} {p : Addr} {kvs : List (Key × V)} {k : Str} {v : V} {Q : VK}
theorem rd_get (hs : σ[0]? = some (some (.ref p))) (hp : H p = some (.dK kvs)) (hv : valV kvs (.inr k) = some v) (q : Q v H) : tG k σ H Q :=
  ⟨_, hs, p, v, rfl, by rw [← hv]; exact DGet.k (k := .inr k) hp, q⟩
theorem dput_of (hp : H p = some (.dK kvs)) (hl : kvs.length < 100) : DPut H p (.str k) v (upd H p (.dK (putK kvs (.inr k) v))) := DPut.k (k := .inr k) hp (by rw [sizeLine_eq]; omega)
theorem draw_ok {a cc : Addr} {Hd : Hp} {n : Nat} {many : Int} (sa : Same Hd H) (pe : PenAt n Hd H a cc) (hn : n + 1 ≤ LIM) (m0 : 0 < many) (m1 : many < 1073741824)
    (q : ∀ (v : V) (d : D) (Hd' H' : Hp), Grow (some a) Hd H Hd' H' → PenAt (n + 1) Hd' H' a cc → postDraw [D.int many] d → Rep K Hd' v d → Q v H') :
    tDraw K { nx := fun _ H' => Q V.non H', rt := Q } [some (.ref a), some (.int many), none, none, none] H := by
  obtain ⟨⟨i, dg, ct, fd, hp, i0, d0, c0, c1, f0, f1⟩, nd, ns, hc, nl⟩ := pe
  have nca : cc ≠ a := fun z => by subst z; rw [nd] at hc; cases hc
  -- what is wanted of an end
  have fin : ∀ (r : Int) (H' : Hp) (i dg ct fd : Int), (∀ b, b ≠ a → H' b = H b) → H' a = some (.dK (penKvs cc i dg ct fd)) → 0 ≤ i → 0 ≤ dg → 0 ≤ ct → ct ≤ n + 1 → 0 ≤ fd → fd < 2147483587 → 0 ≤ r → r < many → Q (.int r) H' := by
    intro r H' i dg ct fd same hp' a1 a2 a3 a4 a5 a6 a7 a8
    have ne : ∀ b o, Hd b = some o → b ≠ a := fun b o e z => by subst z; rw [nd] at e; cases e
    refine q _ (.int r) Hd H' ⟨Same.refl _, fun b o z e => ?_, fun b o e => ?_, fun _ _ z => z, fun b e => ?_⟩ ⟨⟨i, dg, ct, fd, hp', a1, a2, a3, by omega, a5, a6⟩, nd, ns, hc, nl⟩ ⟨many, r, rfl, rfl, a7, a8⟩ (.int r)
    · rw [same b (fun y => z (by rw [y]))]; exact e
    · rw [same b (ne b o e)]; exact sa _ _ e
    · by_cases z : b = a
      · subst z; rw [hp']; exact fun y => nomatch y
      · rw [same b z]; exact e
  -- the last part, from any state of the pen
  have last : ∀ (σ : L2.St) (H' : Hp) (i dg ct fd : Int), σ[0]? = some (some (.ref a)) → σ[1]? = some (some (.int many)) → σ.length = 5 → (∀ b, b ≠ a → H' b = H b) → H' a = some (.dK (penKvs cc i dg ct fd)) → 0 ≤ i → 0 ≤ dg → 0 ≤ ct → ct ≤ n + 1 → 0 ≤ fd → fd < 2147483587 →
      (tSeq (tIfS (tTest (tOp (rI0 fun i j => V.bl (decide (j < i))) (tG "digits") (tI 0)))
       (tSeq (tAsg (tMd (tIntC (tG "digits")) (tVar 1)) (gName 3)) (tSeq (sDPut (tVar 0) (tC (.str "digits")) (tDv (tG "digits") (tVar 1))) (tRet (tVar 3))))
       tNext)
     (tSeq (tAsg (tOp (rAddU K) (tOp (rAddU K) (tG "fold") (tOp (rMulU K) (tG "count") (tI 7907))) (tI 67)) (gName 4))
      (tRet (tMd (tDv (tIntC (tMd (tOp (rI CPow fun i j => V.int (i ^ j.toNat)) (tVar 4) (tI 17)) (tI 2305843009213693951))) (tI 128)) (tVar 1))))) { nx := fun _ H' => Q V.non H', rt := Q } σ H' := by
    intro σ H' i dg ct fd h0 h1 hl same hp' a1 a2 a3 a4 a5 a6
    refine rd_get h0 hp' pen_digits ⟨_, _, rfl, rfl, _, rfl, ite2 (fun hpos => ?_) fun hneg => ?_⟩
    · have hpos' : 0 < dg := of_decide_eq_true hpos
      refine rd_get h0 hp' pen_digits (.inl ⟨_, rfl, _, h1, _, _, rfl, rfl, m0, ?_⟩)
      have s0 : (σ.set 3 (some (V.int (dg % many))))[0]? = some (some (.ref a)) := by rw [List.getElem?_set_ne (by decide)]; exact h0
      have s1 : (σ.set 3 (some (V.int (dg % many))))[1]? = some (some (.int many)) := by rw [List.getElem?_set_ne (by decide)]; exact h1
      have s3 : (σ.set 3 (some (V.int (dg % many))))[3]? = some (some (V.int (dg % many))) := List.getElem?_set_self (by omega)
      refine rd_get s0 hp' pen_digits ⟨_, s1, _, _, rfl, rfl, ⟨m0, m1⟩, _, s0, a, _, rfl, dput_of hp' (show 5 < 100 by decide), _, s3, ?_⟩
      rw [put_digits]
      refine fin (dg % many) _ i (dg / many) ct fd (fun b z => ?_) upd_same a1 (Int.ediv_nonneg a2 (by omega)) a3 a4 a5 a6 (Int.emod_nonneg _ (by omega)) (Int.emod_lt_of_pos _ m0)
      rw [upd_ne z]; exact same b z
    · refine rd_get h0 hp' pen_fold (rd_get h0 hp' pen_count (.inl ⟨_, _, rfl, rfl, .inr (by omega), .inl ⟨_, _, rfl, rfl, .inl ⟨_, _, rfl, rfl, ?_⟩⟩⟩))
      have s1 : (σ.set 4 (some (V.int (fd + ct * 7907 + 67))))[1]? = some (some (.int many)) := by rw [List.getElem?_set_ne (by decide)]; exact h1
      have s4 : (σ.set 4 (some (V.int (fd + ct * 7907 + 67))))[4]? = some (some (V.int (fd + ct * 7907 + 67))) := List.getElem?_set_self (by omega)
      have hL : (n : Int) + 1 ≤ 1000000000000 := by have : n + 1 ≤ 1000000000000 := hn; omega
      refine ⟨_, s4, _, _, rfl, rfl, ⟨by decide, by decide, by omega⟩, _, _, rfl, rfl, (show (0 : Int) < 2305843009213693951 by decide), .inl ⟨_, rfl, _, _, rfl, rfl, ⟨by decide, by decide⟩, _, s1, _, _, rfl, rfl, m0, ?_⟩⟩
      exact fin _ _ i dg ct fd same hp' a1 a2 a3 a4 a5 a6 (Int.emod_nonneg _ (by omega)) (Int.emod_lt_of_pos _ m0)
  -- count
  have s0 : ([some (.ref a), some (.int many), none, none, none] : L2.St)[0]? = some (some (.ref a)) := rfl
  refine rd_get s0 hp pen_count (.inl ⟨_, _, rfl, rfl, _, s0, a, _, rfl, dput_of hp (show 5 < 100 by decide), ?_⟩)
  rw [put_count]
  have hp1 : upd H a (.dK (penKvs cc i dg (ct + 1) fd)) a = some (.dK (penKvs cc i dg (ct + 1) fd)) := upd_same
  generalize hH1 : upd H a (.dK (penKvs cc i dg (ct + 1) fd)) = H1 at hp1
  have same1 : ∀ b, b ≠ a → H1 b = H b := fun b z => by rw [← hH1]; exact upd_ne z
  have hcc : H1 cc = some (.lst (ns.map V.int)) := by rw [same1 cc nca]; exact sa _ _ hc
  refine rd_get s0 hp1 pen_digits ⟨.int dg, .int 0, .int _, .int _, rfl, rfl, _, rfl, ite2 (fun z => ?_) fun z => ?_⟩
  · have dz : dg = 0 := by
      have z' : (dg == 0) = true := z
      exact eq_of_beq z'
    refine rd_get s0 hp1 pen_at (rd_get s0 hp1 pen_cells ⟨_, _, rfl, .inl ⟨_, SqL.of hcc, rfl⟩, _, _, rfl, rfl, _, rfl, ite2 (fun y => ?_) fun y => ?_⟩)
    · have y' := of_decide_eq_true y
      rw [List.length_map] at y'
      obtain ⟨j, rfl⟩ : ∃ j : Nat, i = (j : Int) := ⟨i.toNat, by omega⟩
      have hj : j < ns.length := by omega
      have hcell : atI (ns.map V.int) (j : Int) = some (V.int ns[j]) := atI_nat (by rw [List.getElem?_map, List.getElem?_eq_getElem hj]; rfl)
      refine rd_get s0 hp1 pen_cells (rd_get s0 hp1 pen_at (.inl ⟨_, _, _, _, rfl, rfl, SqL.of hcc, hcell, ?_⟩))
      have t0 : (([some (.ref a), some (.int many), none, none, none] : L2.St).set 2 (some (V.int ns[j])))[0]? = some (some (.ref a)) := rfl
      have t1 : (([some (.ref a), some (.int many), none, none, none] : L2.St).set 2 (some (V.int ns[j])))[1]? = some (some (.int many)) := rfl
      have t2 : (([some (.ref a), some (.int many), none, none, none] : L2.St).set 2 (some (V.int ns[j])))[2]? = some (some (V.int ns[j])) := rfl
      generalize ns[j] = cell at t0 t1 t2 ⊢
      refine rd_get t0 hp1 pen_at (.inl ⟨_, _, rfl, rfl, _, t0, a, _, rfl, dput_of hp1 (show 5 < 100 by decide), ?_⟩)
      rw [put_at]
      have hp2 : upd H1 a (.dK (penKvs cc ((j : Int) + 1) dg (ct + 1) fd)) a = some (.dK (penKvs cc ((j : Int) + 1) dg (ct + 1) fd)) := upd_same
      generalize hH2 : upd H1 a (.dK (penKvs cc ((j : Int) + 1) dg (ct + 1) fd)) = H2 at hp2
      have same2 : ∀ b, b ≠ a → H2 b = H b := fun b z => by rw [← hH2, upd_ne z]; exact same1 b z
      refine ⟨_, t2, _, _, rfl, rfl, ⟨by decide, by decide, by decide⟩, _, _, rfl, rfl, _, rfl, ite2 (fun x => ?_) fun x => ?_⟩
      · have x' := of_decide_eq_true x
        refine ⟨_, t2, _, _, rfl, rfl, ⟨by decide, by decide, by decide⟩, _, _, rfl, rfl, _, t0, a, _, rfl, dput_of hp2 (show 5 < 100 by decide), ?_⟩
        rw [put_digits]
        exact last _ _ _ _ _ _ t0 t1 rfl (fun b z => by rw [upd_ne z]; exact same2 b z) upd_same (by omega) (by omega) (by omega) (by omega) f0 f1
      · refine rd_get t0 hp2 pen_fold (.inl ⟨_, _, rfl, rfl, .inr (by omega), _, t2, .inl ⟨_, _, rfl, rfl, .inl ⟨_, rfl, _, _, rfl, rfl, (show (0 : Int) < 2147483587 by decide), _, t0, a, _, rfl, dput_of hp2 (show 5 < 100 by decide), ?_⟩⟩⟩)
        rw [put_fold]
        exact last _ _ _ _ _ _ t0 t1 rfl (fun b z => by rw [upd_ne z]; exact same2 b z) upd_same (by omega) d0 (by omega) (by omega) (Int.emod_nonneg _ (by decide)) (Int.emod_lt_of_pos _ (by decide))
    · exact last _ _ _ _ _ _ s0 rfl rfl same1 hp1 i0 d0 (by omega) (by omega) f0 f1
  · exact last _ _ _ _ _ _ s0 rfl rfl same1 hp1 i0 d0 (by omega) (by omega) f0 f1

/-! ### the pen made -/
def SpPen (K : PySem.W.Frag) : Sp := fun vs H Q _ => ∃ (a : Addr) (ns : List Int), vs = [.ref a] ∧ SqL K H a (ns.map V.int) ∧ ns.length ≤ 63 ∧
  ∀ (p c : Addr) (fd : Int) (H' : Hp), Same H H' → H p = none → H c = none → c ≠ p → H' p = some (.dK (penKvs c 0 0 0 fd)) → H' c = some (.lst (ns.map V.int)) → 0 ≤ fd → fd < 2147483587 → Q (.ref p) H'
def SpLaw (K : PySem.W.Frag) : Sp := fun vs H Q _ => ∃ (a : Addr) (ns : List Int), vs = [.ref a] ∧ SqL K H a (ns.map V.int) ∧ ns.length ≤ 63 ∧ ∀ H', Q (.bl true) H'
abbrev tPenMake (K : PySem.W.Frag) : TS :=
  tSeq (tAsg (tI 0) (gName 1)) (tSeq (tFor (iSeq K (tVar 0)) (gName 2) (tAsg (tMd (tIntC (tOp (rAddU K) (tOp (rMulU K) (tVar 1) (tI 59)) (tVar 2))) (tI 1000000021)) (gName 1)))
   (tRet (tDisp [(tC (.str "cells"), tCB (fun xs H Q => ∃ p ys, xs = [.ref p] ∧ (SqL K H p ys ∨ SqT K H p ys) ∧ ∀ l, H l = none → Q (.ref l) (upd H l (.lst ys))) (tCons (tVar 0) tNil)), (tC (.str "at"), tI 0), (tC (.str "digits"), tI 0), (tC (.str "count"), tI 0), (tC (.str "fold"), tVar 1)])))
theorem penMake_ok {a : Addr} {ns : List Int} {H : Hp} (hs : SqL K H a (ns.map V.int)) (q : ∀ (p c : Addr) (fd : Int) (H' : Hp), Same H H' → H p = none → H c = none → c ≠ p → H' p = some (.dK (penKvs c 0 0 0 fd)) → H' c = some (.lst (ns.map V.int)) → 0 ≤ fd → fd < 2147483587 → Q (.ref p) H') :
    tPenMake K { nx := fun _ H' => Q V.non H', rt := Q } [some (.ref a), none, none] H := by
  refine ⟨_, rfl, .inl ⟨a, rfl, ⟨_, hs⟩, for_list (K := K) (a := a) (xs := ns.map V.int) (fun _ σ H' => H' = H ∧ ∃ (fd : Int) (o : Option V), 0 ≤ fd ∧ fd < 1000000021 ∧ σ = [some (.ref a), some (.int fd), o]) ⟨rfl, 0, none, by decide, by decide, rfl⟩ (fun _ _ _ _ z => by rw [z.1]; exact hs) ?_ ?_⟩⟩
  · rintro i y σ H' hy ⟨rfl, fd, o, f0, f1, rfl⟩
    obtain ⟨cell, rfl⟩ : ∃ cell, y = V.int cell := by
      rw [List.getElem?_map] at hy
      cases z : ns[i]? with
      | none => rw [z] at hy; cases hy
      | some cell => rw [z] at hy; exact ⟨cell, (Option.some.inj hy).symm⟩
    refine ⟨_, rfl, .inl ⟨_, _, rfl, rfl, .inr (by omega), _, rfl, .inl ⟨_, _, rfl, rfl, .inl ⟨_, rfl, _, _, rfl, rfl, (show (0 : Int) < 1000000021 by decide), rfl, _, _, Int.emod_nonneg _ (by decide), Int.emod_lt_of_pos _ (by decide), rfl⟩⟩⟩⟩
  · rintro σ H' ⟨rfl, fd, o, f0, f1, rfl⟩
    refine fun p hp => ⟨_, rfl, a, _, rfl, .inl (Same.seq (fun b u e => ?_) hs), fun l hl => ⟨_, rfl, ?_⟩⟩
    · rw [upd_ne (ne_of_none e hp)]; exact e
    have nlp : l ≠ p := fun z => by subst z; rw [upd_same] at hl; cases hl
    have hl0 : H' l = none := by rw [upd_ne nlp] at hl; exact hl
    refine ⟨by rw [upd_ne nlp.symm]; exact upd_same, [(.inr "cells", .ref l), (.inr "at", .int 0), (.inr "digits", .int 0), (.inr "count", .int 0), (.inr "fold", .int fd)], rfl, (show 5 ≤ 15 by decide), ?_⟩
    refine q p l fd _ (fun b u e => ?_) hp hl0 nlp upd_same (by rw [upd_ne nlp]; exact upd_same) f0 (by omega)
    have z1 : b ≠ p := ne_of_none e hp
    have z2 : b ≠ l := ne_of_none e hl0
    rw [upd_ne z1, upd_ne z2, upd_ne z1]; exact e
/-! ### a law from its pen on -/
def GL (n : Nat) : List Sk := .un :: .pen :: List.replicate n .un
theorem law_start {N : List Str} {n m : Nat} {a : Addr} {ns : List Int} {H : Hp} {rest : TS} {E : XK} (hN : N.length = n + 2) (hm : m ≤ LIM) (hs : SqL K H a (ns.map V.int)) (hl : ns.length ≤ 63)
    (hw : ∀ p c, Wp ⟨K, some (p, c), L2.E0, fun _ _ => False⟩ rest (GL n) m (retW (· = .bl true))) (q : ∀ H', Q (.bl true) H') :
    tSeq (tAsg (tCall (SpPen K) [] E (tCons (tVar 0) tNil)) (gName 1)) rest { nx := fun _ H' => Q V.non H', rt := Q } (L2.start N [.ref a]) H := by
  have st : L2.start N [.ref a] = some (.ref a) :: none :: List.replicate n none := by
    unfold L2.start
    rw [hN]
    show some (V.ref a) :: List.replicate (n + 1) none = _
    rw [List.replicate_succ]
  rw [st]
  refine ⟨_, rfl, a, ns, rfl, hs, hl, fun p c fd H' s hp hc ncp e1 e2 f0 f1 => ?_⟩
  let Hd : Hp := upd (fun _ => none) c (.lst (ns.map V.int))
  have hdc : Hd c = some (.lst (ns.map V.int)) := upd_same
  have hdn : ∀ b, b ≠ c → Hd b = none := fun b z => upd_ne z
  have sa : Same Hd H' := fun b o e => by
    by_cases z : b = c
    · subst z; rw [hdc] at e; cases e; exact e2
    · rw [hdn b z] at e; cases e
  have sr : SR K (some (p, c)) Hd H' (some (.ref a) :: some (.ref p) :: List.replicate n none) (GL n) := by
    have own : ∀ (i : Nat) (k : Sk), (GL n)[i]? = some k → k.isOwn = false := fun i k h => by
      match i, h with
      | 0, h => cases h; rfl
      | 1, h => cases h; rfl
      | i + 2, h =>
        have h' : (List.replicate n Sk.un)[i]? = some k := h
        rw [List.getElem?_replicate] at h'
        split at h' <;> cases h'
        rfl
    refine ⟨by simp [GL], fun i o k h1 h2 => ?_, fun i j k1 k2 l ne h1 o1 => by rw [own i k1 h1] at o1; cases o1⟩
    match i, h1, h2 with
    | 0, h1, h2 => cases h2; exact True.intro
    | 1, h1, h2 => cases h1; cases h2; exact ⟨p, rfl, rfl⟩
    | i + 2, h1, h2 =>
      have h' : (List.replicate n Sk.un)[i]? = some k := h2
      rw [List.getElem?_replicate] at h'
      split at h' <;> cases h'
      exact True.intro
  have pe : PenO (some (p, c)) 0 Hd H' := ⟨⟨0, 0, 0, fd, e1, by decide, by decide, by decide, by decide, f0, f1⟩, hdn p (fun z => ncp z.symm), ns, hdc, hl⟩
  have goal := hw p c Hd Hd H' (some (.ref a) :: some (.ref p) :: List.replicate n none) Hd H' 0 ⟨Same.refl _, sa, .refl sa, sr, pe, fun i k l h1 h2 h3 => by
    have z : k.isOwn = false := by
      match i, h1 with
      | 0, h => cases h; rfl
      | 1, h => cases h; rfl
      | i + 2, h =>
        have h' : (List.replicate n Sk.un)[i]? = some k := h
        rw [List.getElem?_replicate] at h'
        split at h' <;> cases h'
        rfl
    rw [z] at h2; cases h2⟩ (by omega) (fun _ _ _ _ _ _ hh _ => hh.elim) { nx := fun _ H' => Q V.non H', rt := Q } ?_ ?_ ?_ ?_
  · exact goal
  · intro Γ' σ' Hd' H2 z _
    have z' : D.non = D.bl true := z
    cases z'
  · intro _ _ _ _ z; exact z.elim
  · intro _ _ _ _ z; exact z.elim
  · intro v d Hd' H2 z _ _ r
    have z' : d = D.bl true := z
    subst z'
    cases r
    exact q H2
end
end DL
set_option maxRecDepth 100000
set_option maxHeartbeats 4000000
/-! DLpenW: the pen draws from any number of things (the divisor may be large). -/
namespace DL
open PySem L2 PyProof.Rows
abbrev tDvW (a b : TE) : TE := tOp (rI CDivW fun i j => V.int (i / j)) a b
abbrev tDrawW (K : PySem.W.Frag) : TS :=
  tSeq (sDPut (tVar 0) (tC (.str "count")) (tOp (rAddU K) (tG "count") (tI 1)))
   (tSeq (tIfS (tAnd (tTest (tOp (rEqD K) (tG "digits") (tI 0))) (tTest (tOp (rI0 fun i j => V.bl (decide (i < j))) (tG "at") (tCB (fun xs H Q => ∃ x n, xs = [x] ∧ LenV K x H n ∧ Q (V.int n) H) (tCons (tG "cells") tNil)))))
      (tSeq (tAsg (tOp (rIx K) (tG "cells") (tG "at")) (gName 2))
       (tSeq (sDPut (tVar 0) (tC (.str "at")) (tOp (rAddU K) (tG "at") (tI 1)))
        (tIfS (tTest (tOp (rI0 fun i j => V.bl (decide (j ≤ i))) (tVar 2) (tPw 10 18)))
          (sDPut (tVar 0) (tC (.str "digits")) (tOp (rI0 fun i j => V.int (i - j)) (tVar 2) (tPw 10 18)))
          (sDPut (tVar 0) (tC (.str "fold")) (tMd (tIntC (tOp (rAddU K) (tOp (rMulU K) (tG "fold") (tI 71473)) (tVar 2))) (tI 2147483587))))))
      tNext)
    (tSeq (tIfS (tTest (tOp (rI0 fun i j => V.bl (decide (j < i))) (tG "digits") (tI 0)))
       (tSeq (tAsg (tMd (tIntC (tG "digits")) (tVar 1)) (gName 3)) (tSeq (sDPut (tVar 0) (tC (.str "digits")) (tDvW (tG "digits") (tVar 1))) (tRet (tVar 3))))
       tNext)
     (tSeq (tAsg (tOp (rAddU K) (tOp (rAddU K) (tG "fold") (tOp (rMulU K) (tG "count") (tI 7907))) (tI 67)) (gName 4))
      (tRet (tMd (tDvW (tIntC (tMd (tOp (rI CPow fun i j => V.int (i ^ j.toNat)) (tVar 4) (tI 17)) (tI 2305843009213693951))) (tI 128)) (tVar 1))))))
section
variable {K : PySem.W.Frag} {σ : L2.St} {H : Hp} {p : Addr} {kvs : List (Key × V)} {k : Str} {v : V} {Q : VK}
theorem drawW_ok {a cc : Addr} {Hd : Hp} {n : Nat} {many : Int} (sa : Same Hd H) (pe : PenAt n Hd H a cc) (hn : n + 1 ≤ LIM) (m0 : 0 < many) (m1 : many.natAbs.log2 < 9000)
    (q : ∀ (v : V) (d : D) (Hd' H' : Hp), Grow (some a) Hd H Hd' H' → PenAt (n + 1) Hd' H' a cc → postDraw [D.int many] d → Rep K Hd' v d → Q v H') :
    tDrawW K { nx := fun _ H' => Q V.non H', rt := Q } [some (.ref a), some (.int many), none, none, none] H := by
  obtain ⟨⟨i, dg, ct, fd, hp, i0, d0, c0, c1, f0, f1⟩, nd, ns, hc, nl⟩ := pe
  have nca : cc ≠ a := fun z => by subst z; rw [nd] at hc; cases hc
  -- what is wanted of an end
  have fin : ∀ (r : Int) (H' : Hp) (i dg ct fd : Int), (∀ b, b ≠ a → H' b = H b) → H' a = some (.dK (penKvs cc i dg ct fd)) → 0 ≤ i → 0 ≤ dg → 0 ≤ ct → ct ≤ n + 1 → 0 ≤ fd → fd < 2147483587 → 0 ≤ r → r < many → Q (.int r) H' := by
    intro r H' i dg ct fd same hp' a1 a2 a3 a4 a5 a6 a7 a8
    have ne : ∀ b o, Hd b = some o → b ≠ a := fun b o e z => by subst z; rw [nd] at e; cases e
    refine q _ (.int r) Hd H' ⟨Same.refl _, fun b o z e => ?_, fun b o e => ?_, fun _ _ z => z, fun b e => ?_⟩ ⟨⟨i, dg, ct, fd, hp', a1, a2, a3, by omega, a5, a6⟩, nd, ns, hc, nl⟩ ⟨many, r, rfl, rfl, a7, a8⟩ (.int r)
    · rw [same b (fun y => z (by rw [y]))]; exact e
    · rw [same b (ne b o e)]; exact sa _ _ e
    · by_cases z : b = a
      · subst z; rw [hp']; exact fun y => nomatch y
      · rw [same b z]; exact e
  -- the last part, from any state of the pen
  have last : ∀ (σ : L2.St) (H' : Hp) (i dg ct fd : Int), σ[0]? = some (some (.ref a)) → σ[1]? = some (some (.int many)) → σ.length = 5 → (∀ b, b ≠ a → H' b = H b) → H' a = some (.dK (penKvs cc i dg ct fd)) → 0 ≤ i → 0 ≤ dg → 0 ≤ ct → ct ≤ n + 1 → 0 ≤ fd → fd < 2147483587 →
      (tSeq (tIfS (tTest (tOp (rI0 fun i j => V.bl (decide (j < i))) (tG "digits") (tI 0)))
       (tSeq (tAsg (tMd (tIntC (tG "digits")) (tVar 1)) (gName 3)) (tSeq (sDPut (tVar 0) (tC (.str "digits")) (tDvW (tG "digits") (tVar 1))) (tRet (tVar 3))))
       tNext)
     (tSeq (tAsg (tOp (rAddU K) (tOp (rAddU K) (tG "fold") (tOp (rMulU K) (tG "count") (tI 7907))) (tI 67)) (gName 4))
      (tRet (tMd (tDvW (tIntC (tMd (tOp (rI CPow fun i j => V.int (i ^ j.toNat)) (tVar 4) (tI 17)) (tI 2305843009213693951))) (tI 128)) (tVar 1))))) { nx := fun _ H' => Q V.non H', rt := Q } σ H' := by
    intro σ H' i dg ct fd h0 h1 hl same hp' a1 a2 a3 a4 a5 a6
    refine rd_get h0 hp' pen_digits ⟨_, _, rfl, rfl, _, rfl, ite2 (fun hpos => ?_) fun hneg => ?_⟩
    · have hpos' : 0 < dg := of_decide_eq_true hpos
      refine rd_get h0 hp' pen_digits (.inl ⟨_, rfl, _, h1, _, _, rfl, rfl, m0, ?_⟩)
      have s0 : (σ.set 3 (some (V.int (dg % many))))[0]? = some (some (.ref a)) := by rw [List.getElem?_set_ne (by decide)]; exact h0
      have s1 : (σ.set 3 (some (V.int (dg % many))))[1]? = some (some (.int many)) := by rw [List.getElem?_set_ne (by decide)]; exact h1
      have s3 : (σ.set 3 (some (V.int (dg % many))))[3]? = some (some (V.int (dg % many))) := List.getElem?_set_self (by omega)
      refine rd_get s0 hp' pen_digits ⟨_, s1, _, _, rfl, rfl, ⟨m0, m1⟩, _, s0, a, _, rfl, dput_of hp' (show 5 < 100 by decide), _, s3, ?_⟩
      rw [put_digits]
      refine fin (dg % many) _ i (dg / many) ct fd (fun b z => ?_) upd_same a1 (Int.ediv_nonneg a2 (by omega)) a3 a4 a5 a6 (Int.emod_nonneg _ (by omega)) (Int.emod_lt_of_pos _ m0)
      rw [upd_ne z]; exact same b z
    · refine rd_get h0 hp' pen_fold (rd_get h0 hp' pen_count (.inl ⟨_, _, rfl, rfl, .inr (by omega), .inl ⟨_, _, rfl, rfl, .inl ⟨_, _, rfl, rfl, ?_⟩⟩⟩))
      have s1 : (σ.set 4 (some (V.int (fd + ct * 7907 + 67))))[1]? = some (some (.int many)) := by rw [List.getElem?_set_ne (by decide)]; exact h1
      have s4 : (σ.set 4 (some (V.int (fd + ct * 7907 + 67))))[4]? = some (some (V.int (fd + ct * 7907 + 67))) := List.getElem?_set_self (by omega)
      have hL : (n : Int) + 1 ≤ 1000000000000 := by have : n + 1 ≤ 1000000000000 := hn; omega
      refine ⟨_, s4, _, _, rfl, rfl, ⟨by decide, by decide, by omega⟩, _, _, rfl, rfl, (show (0 : Int) < 2305843009213693951 by decide), .inl ⟨_, rfl, _, _, rfl, rfl, ⟨by decide, by decide +kernel⟩, _, s1, _, _, rfl, rfl, m0, ?_⟩⟩
      exact fin _ _ i dg ct fd same hp' a1 a2 a3 a4 a5 a6 (Int.emod_nonneg _ (by omega)) (Int.emod_lt_of_pos _ m0)
  -- count
  have s0 : ([some (.ref a), some (.int many), none, none, none] : L2.St)[0]? = some (some (.ref a)) := rfl
  refine rd_get s0 hp pen_count (.inl ⟨_, _, rfl, rfl, _, s0, a, _, rfl, dput_of hp (show 5 < 100 by decide), ?_⟩)
  rw [put_count]
  have hp1 : upd H a (.dK (penKvs cc i dg (ct + 1) fd)) a = some (.dK (penKvs cc i dg (ct + 1) fd)) := upd_same
  generalize hH1 : upd H a (.dK (penKvs cc i dg (ct + 1) fd)) = H1 at hp1
  have same1 : ∀ b, b ≠ a → H1 b = H b := fun b z => by rw [← hH1]; exact upd_ne z
  have hcc : H1 cc = some (.lst (ns.map V.int)) := by rw [same1 cc nca]; exact sa _ _ hc
  refine rd_get s0 hp1 pen_digits ⟨.int dg, .int 0, .int _, .int _, rfl, rfl, _, rfl, ite2 (fun z => ?_) fun z => ?_⟩
  · have dz : dg = 0 := by
      have z' : (dg == 0) = true := z
      exact eq_of_beq z'
    refine rd_get s0 hp1 pen_at (rd_get s0 hp1 pen_cells ⟨_, _, rfl, .inl ⟨_, SqL.of hcc, rfl⟩, _, _, rfl, rfl, _, rfl, ite2 (fun y => ?_) fun y => ?_⟩)
    · have y' := of_decide_eq_true y
      rw [List.length_map] at y'
      obtain ⟨j, rfl⟩ : ∃ j : Nat, i = (j : Int) := ⟨i.toNat, by omega⟩
      have hj : j < ns.length := by omega
      have hcell : atI (ns.map V.int) (j : Int) = some (V.int ns[j]) := atI_nat (by rw [List.getElem?_map, List.getElem?_eq_getElem hj]; rfl)
      refine rd_get s0 hp1 pen_cells (rd_get s0 hp1 pen_at (.inl ⟨_, _, _, _, rfl, rfl, SqL.of hcc, hcell, ?_⟩))
      have t0 : (([some (.ref a), some (.int many), none, none, none] : L2.St).set 2 (some (V.int ns[j])))[0]? = some (some (.ref a)) := rfl
      have t1 : (([some (.ref a), some (.int many), none, none, none] : L2.St).set 2 (some (V.int ns[j])))[1]? = some (some (.int many)) := rfl
      have t2 : (([some (.ref a), some (.int many), none, none, none] : L2.St).set 2 (some (V.int ns[j])))[2]? = some (some (V.int ns[j])) := rfl
      generalize ns[j] = cell at t0 t1 t2 ⊢
      refine rd_get t0 hp1 pen_at (.inl ⟨_, _, rfl, rfl, _, t0, a, _, rfl, dput_of hp1 (show 5 < 100 by decide), ?_⟩)
      rw [put_at]
      have hp2 : upd H1 a (.dK (penKvs cc ((j : Int) + 1) dg (ct + 1) fd)) a = some (.dK (penKvs cc ((j : Int) + 1) dg (ct + 1) fd)) := upd_same
      generalize hH2 : upd H1 a (.dK (penKvs cc ((j : Int) + 1) dg (ct + 1) fd)) = H2 at hp2
      have same2 : ∀ b, b ≠ a → H2 b = H b := fun b z => by rw [← hH2, upd_ne z]; exact same1 b z
      refine ⟨_, t2, _, _, rfl, rfl, ⟨by decide, by decide, by decide⟩, _, _, rfl, rfl, _, rfl, ite2 (fun x => ?_) fun x => ?_⟩
      · have x' := of_decide_eq_true x
        refine ⟨_, t2, _, _, rfl, rfl, ⟨by decide, by decide, by decide⟩, _, _, rfl, rfl, _, t0, a, _, rfl, dput_of hp2 (show 5 < 100 by decide), ?_⟩
        rw [put_digits]
        exact last _ _ _ _ _ _ t0 t1 rfl (fun b z => by rw [upd_ne z]; exact same2 b z) upd_same (by omega) (by omega) (by omega) (by omega) f0 f1
      · refine rd_get t0 hp2 pen_fold (.inl ⟨_, _, rfl, rfl, .inr (by omega), _, t2, .inl ⟨_, _, rfl, rfl, .inl ⟨_, rfl, _, _, rfl, rfl, (show (0 : Int) < 2147483587 by decide), _, t0, a, _, rfl, dput_of hp2 (show 5 < 100 by decide), ?_⟩⟩⟩)
        rw [put_fold]
        exact last _ _ _ _ _ _ t0 t1 rfl (fun b z => by rw [upd_ne z]; exact same2 b z) upd_same (by omega) d0 (by omega) (by omega) (Int.emod_nonneg _ (by decide)) (Int.emod_lt_of_pos _ (by decide))
    · exact last _ _ _ _ _ _ s0 rfl rfl same1 hp1 i0 d0 (by omega) (by omega) f0 f1
  · exact last _ _ _ _ _ _ s0 rfl rfl same1 hp1 i0 d0 (by omega) (by omega) f0 f1

end
end DL
set_option maxRecDepth 100000
set_option maxHeartbeats 4000000
/-! DLx: forms for the tactics: tests of known truth, isinstance by a table, good values. -/
namespace DL
open PySem L2 PyProof.Rows
section
variable {c : Ct} {Γ : List Sk} {m m1 m2 m3 : Nat} {te ta tb : TE} {t u : TT}
theorem eb_orT (h : EvB c t Γ m (· = true)) : EvB c (tOr t u) Γ m (· = true) := (eb_or (m2 := 0) (β := (· = true)) h (fun e => absurd e (by simp)) fun _ => rfl)
theorem eb_orFT (h : EvB c t Γ m1 (· = false)) (h2 : EvB c u Γ m2 (· = true)) : EvB c (tOr t u) Γ (m1 + m2) (· = true) := eb_or h (fun _ => h2) fun e => absurd e (by simp)
theorem eb_orFF (h : EvB c t Γ m1 (· = false)) (h2 : EvB c u Γ m2 (· = false)) : EvB c (tOr t u) Γ (m1 + m2) (· = false) := eb_or h (fun _ => h2) fun e => absurd e (by simp)
theorem eb_andF (h : EvB c t Γ m (· = false)) : EvB c (tAnd t u) Γ m (· = false) := (eb_and (m2 := 0) (β := (· = false)) h (fun e => absurd e (by simp)) fun _ => rfl)
theorem eb_andTF (h : EvB c t Γ m1 (· = true)) (h2 : EvB c u Γ m2 (· = false)) : EvB c (tAnd t u) Γ (m1 + m2) (· = false) := eb_and h (fun _ => h2) fun e => absurd e (by simp)
theorem eb_andTT (h : EvB c t Γ m1 (· = true)) (h2 : EvB c u Γ m2 (· = true)) : EvB c (tAnd t u) Γ (m1 + m2) (· = true) := eb_and h (fun _ => h2) fun e => absurd e (by simp)
theorem eb_notT (h : EvB c t Γ m (· = true)) : EvB c (tNot t) Γ m (· = false) := (eb_not_ h)
theorem eb_notF (h : EvB c t Γ m (· = false)) : EvB c (tNot t) Γ m (· = true) := (eb_not_ h)
/-- a < b < c of whole numbers -/
theorem ev_chainI {f g : Int → Int → Bool} {tc : TE} {i j k : Int} (ha : Ev c ta Γ m1 (· = .int i)) (hb : Ev c tb Γ m2 (· = .int j)) (hc : Ev c tc Γ m3 (· = .int k)) :
    Ev c (tChain (rI0 fun i j => V.bl (f i j)) (rI0 fun i j => V.bl (g i j)) ta tb tc) Γ (m1 + m2 + m3) (· = .bl (f i j && g j k)) := fun σ Hd H n s sa pe l x Q q =>
  ha σ Hd H n s sa pe (by omega) x _ fun v d Hd1 H1 g1 pe1 e r1 => hb σ Hd1 H1 _ (s.grow g1) g1.s pe1 (by omega) (x.grow g1) _ fun v2 d2 Hd2 H2 g2 pe2 e2 r2 => by
    subst e; subst e2
    cases r1; cases r2
    refine ⟨_, _, rfl, rfl, _, rfl, ?_⟩
    cases hf : f i j with
    | true =>
      refine hc σ Hd2 H2 _ (s.grow (g1.trans g2)) g2.s pe2 (by omega) (x.grow (g1.trans g2)) _ fun v3 d3 Hd3 H3 g3 pe3 e3 r3 => ?_
      subst e3; cases r3
      exact ⟨_, _, rfl, rfl, q _ _ Hd3 H3 ((g1.trans g2).trans g3) (PenO.more pe3 (by omega)) (by rw [hf]; rfl) (.bl _)⟩
    | false => exact q _ _ Hd2 H2 (g1.trans g2) (PenO.more pe2 (by omega)) (by rw [hf]; rfl) (.bl _)
/-! isinstance -/
def isiB (d : D) (T : String) : Bool := d.ty == T || (d.ty == "bool" && T == "int")
def isiTys : List String := ["str", "int", "bool", "tuple", "list", "dict"]
theorem kit_tab : ∀ t ∈ ["NoneType", "bool", "int", "str", "list", "tuple", "dict"], ∀ T ∈ isiTys, kitB t T = some (t == T || (t == "bool" && T == "int")) := by decide +kernel
theorem kit_isi {d : D} {T : String} (hb : d.builtin = true) (hT : T ∈ isiTys) : kitB d.ty T = some (isiB d T) := by
  refine kit_tab d.ty ?_ T hT
  cases d with
  | obj _ _ _ => cases hb
  | exc => cases hb
  | _ => simp [D.ty]
theorem ev_isi_ {T : String} {d : D} (h : Ev c te Γ m (· = d)) (hb : d.builtin = true) (hT : T ∈ isiTys := by decide) : Ev c (tCB (rIsi c.K) (tCons te (tCons (tC (.ty T)) tNil))) Γ m (· = .bl (isiB d T)) := ev_isi h hb (kit_isi hb hT)
theorem kitL_isi {d : D} : ∀ {Ts : List String}, d.builtin = true → (∀ T ∈ Ts, T ∈ isiTys) → kitL d.ty Ts = some (Ts.any (isiB d))
  | [], _, _ => rfl
  | T :: Ts, hb, h => by
    unfold kitL
    rw [kit_isi hb (h T List.mem_cons_self), Option.bind_some, List.any_cons]
    cases isiB d T with
    | true => rfl
    | false => exact kitL_isi hb fun U hU => h U (List.mem_cons_of_mem _ hU)
theorem ev_isi2 {T1 T2 : String} {d : D} (h : Ev c te Γ m (· = d)) (hb : d.builtin = true) (h1 : T1 ∈ isiTys := by decide) (h2 : T2 ∈ isiTys := by decide) :
    Ev c (tCB (rIsiT c.K) (tCons te (tCons (tTup (tCons (tC (.ty T1)) (tCons (tC (.ty T2)) tNil))) tNil))) Γ m (· = .bl (isiB d T1 || isiB d T2)) := by
  have q := ev_isiT (c := c) [T1, T2] h hb (kitL_isi hb (by intro T hT; simp only [List.mem_cons, List.not_mem_nil, or_false] at hT; rcases hT with rfl | rfl <;> assumption)) (show 2 ≤ 1000 by decide)
  refine Ev.to q ?_
  simp
/-! good values -/
abbrev GV (d : D) : Prop := GD 64 10000000 d
theorem GV.bi {d : D} (h : GV d) : d.builtin = true := by cases d <;> first | rfl | cases h.pl
theorem GV.len {z : Str} (h : GV (.str z)) : z.length ≤ 1000000 := by have := h.strLen; omega
theorem GV.it {ds : List D} (h : GV (.tup ds)) : ∀ d ∈ ds, GV d := fun d hd => (h.tups.mem d hd).mono (by decide) (Nat.le_refl _)
theorem GV.li {ds : List D} (h : GV (.lst ds)) : ∀ d ∈ ds, GV d := fun d hd => (h.lsts.mem d hd).mono (by decide) (Nat.le_refl _)
theorem GV.its {d : D} {ds : List D} (h : GV d) (e : d.its = some ds) : ∀ x ∈ ds, GV x := by
  cases d with
  | lst es => cases e; exact h.li
  | tup es => cases e; exact h.it
  | _ => cases e
theorem ws_len : ∀ ds : List D, 2 * ds.length ≤ D.ws ds
  | [] => Nat.le_refl _
  | d :: ds => by have := ws_len ds; show 2 * (ds.length + 1) ≤ D.w d + 2 + D.ws ds; omega
theorem GV.seq {d : D} (h : GV d) (e : d.its.isSome = true ∨ (∃ z, d = .str z)) : d.seq = true := by
  rcases e with e | ⟨z, rfl⟩
  · cases d <;> first | rfl | cases e
  · exact decide_eq_true h.len
theorem GV.cut {d : D} (lo hi : Option Int) (h : GV d) (e : d.its.isSome = true) : GV (d.cut lo hi) := by
  cases d with
  | tup ds => exact ⟨(h.tups.cut lo hi).pl, (h.tups.cut lo hi).lay, (h.tups.cut lo hi).sh, by have := (h.tups.cut lo hi).dep; show _ + 1 ≤ 64; omega, by
      have e1 : D.ws (cutD ds lo hi) ≤ D.ws ds := ((GDs.cut (k := 64) (n := D.ws ds) lo hi ⟨h.tups.pl, h.tups.lay, h.tups.sh, by have := h.tups.dep; omega, Nat.le_refl _⟩)).w
      have e2 : D.ws ds + 3 ≤ 10000000 := h.w
      show D.ws (cutD ds lo hi) + 3 ≤ 10000000; omega⟩
  | lst ds => exact ⟨(h.lsts.cut lo hi).pl, (h.lsts.cut lo hi).lay, (h.lsts.cut lo hi).sh, by have := (h.lsts.cut lo hi).dep; show _ + 1 ≤ 64; omega, by
      have e1 : D.ws (cutD ds lo hi) ≤ D.ws ds := ((GDs.cut (k := 64) (n := D.ws ds) lo hi ⟨h.lsts.pl, h.lsts.lay, h.lsts.sh, by have := h.lsts.dep; omega, Nat.le_refl _⟩)).w
      have e2 : D.ws ds + 3 ≤ 10000000 := h.w
      show D.ws (cutD ds lo hi) + 3 ≤ 10000000; omega⟩
  | _ => cases e
theorem on_len_ {d : D} {k : Nat} (h : d.len = some k) : OpN c (fun xs H Q => ∃ x n, xs = [x] ∧ LenV c.K x H n ∧ Q (.int n) H) [d] (· = .int k) := on_len h
end
end DL
set_option maxRecDepth 100000
set_option maxHeartbeats 4000000
/-! DLk: the rules with the written part as a letter (so that they stand within comprehensions too). -/
namespace DL
open PySem L2 PyProof.Rows
section
variable {X : Cx} {K : PySem.W.Frag}
theorem op_addUk (h : X.K = K := by rfl) : OpR X (binaryOp .Add) (rAddU K) := h ▸ op_addU
theorem op_mulUk (h : X.K = K := by rfl) : OpR X (binaryOp .Mult) (rMulU K) := h ▸ op_mulU
theorem op_inUk (h : X.K = K := by rfl) : OpR X (compareOp .In) (rInU K) := h ▸ op_inU
theorem op_ninUk (h : X.K = K := by rfl) : OpR X (compareOp .NotIn) (rNinU K) := h ▸ op_ninU
theorem op_eqDk (hu : X.A.units + 64 < cLine) (h : X.K = K := by rfl) : OpR X (compareOp .Eq) (rEqD K) := h ▸ op_eqD hu
theorem op_neDk (hu : X.A.units + 64 < cLine) (h : X.K = K := by rfl) : OpR X (compareOp .NotEq) (rNeD K) := h ▸ op_neD hu
theorem ix_seqk (h : X.K = K := by rfl) : IxR X (rIx K) := h ▸ ix_seq
theorem sl_Uk (h : X.K = K := by rfl) : SlR X (rSlU K) := h ▸ sl_U
theorem call_lenk (h : X.K = K := by rfl) : CallR X (.builtin "len") (fun xs H Q => ∃ x n, xs = [x] ∧ LenV K x H n ∧ Q (.int n) H) := h ▸ call_len
theorem call_isik (h : X.K = K := by rfl) : CallR X (.builtin "isinstance") (rIsi K) := h ▸ call_isi
theorem call_isiTk (h : X.K = K := by rfl) : CallR X (.builtin "isinstance") (rIsiT K) := h ▸ call_isiT
theorem cr_allk (hc : X.calm = true) (h : X.K = K := by rfl) : CallR X (.builtin "all") (rAll K) := h ▸ cr_all hc
theorem cr_anyk (hc : X.calm = true) (h : X.K = K := by rfl) : CallR X (.builtin "any") (rAny K) := h ▸ cr_any hc
theorem cr_sumk (hc : X.calm = true) (h : X.K = K := by rfl) : CallR X (.builtin "sum") (rSum K) := h ▸ cr_sum hc
theorem cr_sortedSk (h : X.K = K := by rfl) : CallR X (.builtin "sorted") (rSortedS K) := h ▸ cr_sortedS
theorem call_reprk (ng : NoG X.A) (hu : X.A.units + 66 < cLine) (h : X.K = K := by rfl) : CallR X (.builtin "repr") (rReprD K) := h ▸ call_reprD ng hu
theorem call_list_ofk (h : X.K = K := by rfl) : CallR X (.type "list") (fun xs H Q => ∃ p ys, xs = [.ref p] ∧ (SqL K H p ys ∨ SqT K H p ys) ∧ ∀ l, H l = none → Q (.ref l) (upd H l (.lst ys))) := h ▸ call_list_of
theorem call_tuple_ofk (h : X.K = K := by rfl) : CallR X (.type "tuple") (fun xs H Q => ∃ a ys, xs = [.ref a] ∧ ((SqL K H a ys ∧ ∀ l, H l = none → Q (.ref l) (upd H l (.tup ys))) ∨ (SqT K H a ys ∧ Q (.ref a) H))) := h ▸ call_tuple_of
theorem pg_tupk {pos : Pos} {es : List Expr} {k n : Nat} {t : TGs} (hc : X.calm = true) (hp : PGs X es t) (h : X.K = K := by rfl) (hn : (assignEach es X.env).length = n := by rfl) (hst : (assignEach es X.env).findIdx? (·.1) = none := by rfl) : PG X (.Tuple es k pos) (gTup K n t) := h ▸ pg_tup hc hp hn hst
theorem pg_seqk {pos : Pos} {es : List Expr} {k n : Nat} {t : TGs} (hc : X.calm = true) (hp : PGs X es t) (h : X.K = K := by rfl) (hn : (assignEach es X.env).length = n := by rfl) (hst : (assignEach es X.env).findIdx? (·.1) = none := by rfl) : PG X (.Tuple es k pos) (gSeq K n t) := h ▸ pg_seq hc hp hn hst
theorem pi_seqk {tg l : Expr} {tl : TE} (hl : PE X l tl) (h : X.K = K := by rfl) : PI X tg l (iSeq K tl) := h ▸ pi_seq hl
end
section
variable {c : Ct} {Γ : List Sk} {m : Nat} {ta : TA}
/-- zip of two lists, of two tuples -/
theorem itd_zipT {K : PySem.W.Frag} {Hd : Hp} {a b : Addr} {xs ys : List V} {ds es : List D} (h : SqT K Hd a xs) (r : Reps K Hd xs ds) (h2 : SqT K Hd b ys) (r2 : Reps K Hd ys es) : ItD K Hd (RZ.ItzT K a b) (zipD ds es) := fun Hd' H' e1 e2 => by
  have h' : SqT K H' a xs := same_sqt (e1.trans e2) h
  have h2' : SqT K H' b ys := same_sqt (e1.trans e2) h2
  have hl := r.length
  have hl2 := r2.length
  have hz : (zipD ds es).length = min ds.length es.length := by simp [zipD]
  refine ⟨fun i hi => ⟨xs, ys, xs[i]'(by omega), ys[i]'(by omega), h', h2', List.getElem?_eq_getElem _, List.getElem?_eq_getElem _⟩, fun i hi => ⟨xs, ys, h', h2', by omega⟩, fun i v H'' y d hd => ?_⟩
  obtain ⟨T, x, x2, e, hT, eH, y, y2⟩ := y
  subst e; subst eH
  obtain ⟨u1, u2, q1, p1, q2⟩ := zipD_get hd
  subst q2
  obtain ⟨w, q3, q4⟩ := (r.mono e1).get q1
  obtain ⟨w2, p3, p4⟩ := (r2.mono e1).get p1
  have q := y xs h'
  have q' := y2 ys h2'
  rw [q] at q3; cases q3
  rw [q'] at p3; cases p3
  have g := Grow.new (p := none) (o := HO.tup [x, x2]) e2 hT
  exact ⟨_, g, .tup (SqT.of upd_same) (.cons (q4.mono g.d) (.cons (p4.mono g.d) .nil))⟩
theorem ei_zipL_ {ds es : List D} (h : EvA c ta Γ m (· = [.lst ds, .lst es])) : EvI c (RZ.iZipA c.K ta) Γ m (· = zipD ds es) := fun σ Hd H n s sa pe l x R q =>
  h σ Hd H n s sa pe l x _ fun vs as Hd1 H1 g1 pe1 e r1 => by
    subst e
    rcases r1 with _ | ⟨a, _ | ⟨a', _ | _⟩⟩
    cases a with | lst h1 r => cases a' with | lst h2 r2 => exact ⟨_, _, _, _, rfl, .inl ⟨SqL.of (g1.s _ _ h1), SqL.of (g1.s _ _ h2), q _ _ Hd1 H1 g1 pe1 rfl (itd_zip h1 r h2 r2)⟩⟩
theorem ei_zipT_ {ds es : List D} (h : EvA c ta Γ m (· = [.tup ds, .tup es])) : EvI c (RZ.iZipA c.K ta) Γ m (· = zipD ds es) := fun σ Hd H n s sa pe l x R q =>
  h σ Hd H n s sa pe l x _ fun vs as Hd1 H1 g1 pe1 e r1 => by
    subst e
    rcases r1 with _ | ⟨a, _ | ⟨a', _ | _⟩⟩
    cases a with | tup h1 r => cases a' with | tup h2 r2 => exact ⟨_, _, _, _, rfl, .inr ⟨same_sqt g1.s h1, same_sqt g1.s h2, q _ _ Hd1 H1 g1 pe1 rfl (itd_zipT h1 r h2 r2)⟩⟩
end
end DL
set_option maxRecDepth 100000
set_option maxHeartbeats 4000000
/-! DLw: terms with what is to be shown of them (weakest promises): WE, WA, WT, WO, WI, WG, WM, WS. -/
namespace DL
open PySem L2 PyProof.Rows
abbrev Xq := Addr → List (Str × D) → Prop
abbrev noX : Xq := fun _ _ => False
structure WE (K : PySem.W.Frag) (E : XK) where
  t : TE
  m : Nat
  w : Xq → List Sk → (D → Prop) → Prop
  ok : ∀ {p : Pn} {χ : Xq} {Γ : List Sk} {φ : D → Prop}, w χ Γ φ → Ev ⟨K, p, E, χ⟩ t Γ m φ
structure WA (K : PySem.W.Frag) (E : XK) where
  t : TA
  m : Nat
  w : Xq → List Sk → (List D → Prop) → Prop
  ok : ∀ {p : Pn} {χ : Xq} {Γ : List Sk} {φ : List D → Prop}, w χ Γ φ → EvA ⟨K, p, E, χ⟩ t Γ m φ
structure WT (K : PySem.W.Frag) (E : XK) where
  t : TT
  m : Nat
  w : Xq → List Sk → (Bool → Prop) → Prop
  ok : ∀ {p : Pn} {χ : Xq} {Γ : List Sk} {φ : Bool → Prop}, w χ Γ φ → EvB ⟨K, p, E, χ⟩ t Γ m φ
structure WO (K : PySem.W.Frag) (E : XK) where
  t : TO
  m : Nat
  w : Xq → List Sk → (Option Int → Prop) → Prop
  ok : ∀ {p : Pn} {χ : Xq} {Γ : List Sk} {φ : Option Int → Prop}, w χ Γ φ → EvO ⟨K, p, E, χ⟩ t Γ m φ
structure WI (K : PySem.W.Frag) (E : XK) where
  t : TI
  m : Nat
  w : Xq → List Sk → (List D → Prop) → Prop
  ok : ∀ {p : Pn} {χ : Xq} {Γ : List Sk} {φ : List D → Prop}, w χ Γ φ → EvI ⟨K, p, E, χ⟩ t Γ m φ
structure WG (K : PySem.W.Frag) where
  t : TG
  is : List Nat
  ps : D → Option (List (Nat × D))
  sub : ∀ {d l}, ps d = some l → ∀ j ∈ l.map (·.1), j ∈ is
  ok : ∀ {p : Pn} {E : XK} {χ : Xq} {d l}, ps d = some l → TgD ⟨K, p, E, χ⟩ t d l
structure WGs (K : PySem.W.Frag) where
  t : TGs
  is : List Nat
  n : Nat
  ps : List D → Option (List (Nat × D))
  sub : ∀ {d l}, ps d = some l → ∀ j ∈ l.map (·.1), j ∈ is
  len : ∀ {d l}, ps d = some l → d.length = n
  ok : ∀ {p : Pn} {E : XK} {χ : Xq} {d l}, ps d = some l → TgDs ⟨K, p, E, χ⟩ t d l
structure WM (K : PySem.W.Frag) (E : XK) where
  t : TE
  m : Nat
  w : Xq → List Sk → (D → List Sk → Prop) → Prop
  ok : ∀ {p : Pn} {χ : Xq} {Γ : List Sk} {φ : D → List Sk → Prop}, w χ Γ φ → EvM ⟨K, p, E, χ⟩ t Γ m φ
structure WS (K : PySem.W.Frag) (E : XK) where
  t : TS
  m : Nat
  w : Xq → List Sk → Wh → Prop
  ok : ∀ {p : Pn} {χ : Xq} {Γ : List Sk} {W : Wh}, w χ Γ W → Wp ⟨K, p, E, χ⟩ t Γ m W
structure O2 (K : PySem.W.Frag) where
  r : R2
  w : D → D → (D → Prop) → Prop
  ok : ∀ {p : Pn} {E : XK} {χ : Xq} {a b : D} {φ : D → Prop}, w a b φ → Op2 ⟨K, p, E, χ⟩ r a b φ
structure ON (K : PySem.W.Frag) where
  r : List V → Hp → VK → Prop
  w : List D → (D → Prop) → Prop
  ok : ∀ {p : Pn} {E : XK} {χ : Xq} {as : List D} {φ : D → Prop}, w as φ → OpN ⟨K, p, E, χ⟩ r as φ

theorem Op2.to {c : Ct} {r : R2} {a b d : D} {φ : D → Prop} (h : Op2 c r a b (· = d)) (f : φ d) : Op2 c r a b φ := fun x y Hd H s ra rb Q q => h x y Hd H s ra rb Q fun v d' Hd' H' g e r' => q v d' Hd' H' g (by rw [e]; exact f) r'
theorem OpN.to {c : Ct} {r : List V → Hp → VK → Prop} {as : List D} {d : D} {φ : D → Prop} (h : OpN c r as (· = d)) (f : φ d) : OpN c r as φ := fun x Hd H s ra Q q => h x Hd H s ra Q fun v d' Hd' H' g e r' => q v d' Hd' H' g (by rw [e]; exact f) r'
theorem Ev.fin {c : Ct} {te : TE} {Γ : List Sk} {m : Nat} {d : D} {φ : D → Prop} (h : Ev c te Γ m (· = d)) (f : φ d) : Ev c te Γ m φ := h.imp fun _ e => by rw [e]; exact f
section
variable {K : PySem.W.Frag} {E : XK}
/-! ### operations by values -/
def O2.int (g : Int → Int → Int) : O2 K := ⟨rI0 fun i j => .int (g i j), fun a b φ => match a, b with | .int i, .int j => φ (.int (g i j)) | _, _ => False, fun {p E χ a b φ} h => by
  split at h
  · exact o2_I.to h
  · exact h.elim⟩
def O2.cmp (g : Int → Int → Bool) : O2 K := ⟨rI0 fun i j => .bl (g i j), fun a b φ => match a, b with | .int i, .int j => φ (.bl (g i j)) | _, _ => False, fun {p E χ a b φ} h => by
  split at h
  · exact o2_B.to h
  · exact h.elim⟩
def O2.intC (C : Int → Int → Prop) (g : Int → Int → Int) : O2 K := ⟨rI C fun i j => .int (g i j), fun a b φ => match a, b with | .int i, .int j => C i j ∧ φ (.int (g i j)) | _, _ => False, fun {p E χ a b φ} h => by
  split at h
  · exact (o2_IC h.1).to h.2
  · exact h.elim⟩
def O2.add : O2 K := ⟨rAddU K, fun a b φ => match a, b with
  | .int i, .int j => φ (.int (i + j))
  | .str i, .str j => i.length + j.length ≤ 1000000 ∧ φ (.str (i ++ j))
  | .tup i, .tup j => i.length + j.length ≤ 1000000 ∧ φ (.tup (i ++ j))
  | .lst i, .lst j => i.length + j.length ≤ 1000000 ∧ φ (.lst (i ++ j))
  | _, _ => False, fun {p E χ a b φ} h => by
  split at h
  · exact o2_addI.to h
  · exact (o2_addS h.1).to h.2
  · exact (o2_addT h.1).to h.2
  · exact (o2_addL h.1).to h.2
  · exact h.elim⟩
def O2.mul : O2 K := ⟨rMulU K, fun a b φ => match a, b with
  | .int i, .int j => CMul i j ∧ φ (.int (i * j))
  | .str z, .int n => (0 ≤ n ∧ n ≤ 1000 ∧ z.length ≤ 1000) ∧ φ (.str (Txt.mul z n))
  | .lst z, .int n => (0 ≤ n ∧ n ≤ 1000 ∧ z.length ≤ 1000) ∧ φ (.lst (List.replicate n.toNat z).flatten)
  | _, _ => False, fun {p E χ a b φ} h => by
  split at h
  · exact (o2_mulI h.1).to h.2
  · exact (o2_mulS h.1).to h.2
  · exact (o2_mulL h.1).to h.2
  · exact h.elim⟩
def O2.eq : O2 K := ⟨rEqD K, fun a b φ => a.ok = true ∧ b.ok = true ∧ φ (.bl (a.eqv b)), fun {p E χ a b φ} h => (o2_eq h.1 h.2.1).to h.2.2⟩
def O2.ne : O2 K := ⟨rNeD K, fun a b φ => a.ok = true ∧ b.ok = true ∧ φ (.bl (!a.eqv b)), fun {p E χ a b φ} h => (o2_ne h.1 h.2.1).to h.2.2⟩
def O2.isU : O2 K := ⟨rIsU, fun a b φ => match b with | .non => φ (.bl a.isNon) | .bl k => φ (.bl (a.isBl k)) | _ => False, fun {p E χ a b φ} h => by
  split at h
  · exact o2_isN.to h
  · exact o2_isB.to h
  · exact h.elim⟩
def O2.notU : O2 K := ⟨fun x y H Q => y = .non ∧ Q (.bl (!decide (x = .non))) H, fun a b φ => match b with | .non => φ (.bl (!a.isNon)) | _ => False, fun {p E χ a b φ} h => by
  split at h
  · exact o2_notN.to h
  · exact h.elim⟩
/-- the sign of a text of one sign -/
def D.sign : D → Option Nat
  | .str z => match z.cps.toList with | [k] => some k | _ => none
  | _ => none
theorem D.sign_of {d : D} {k : Nat} (h : d.sign = some k) : d = .str ⟨#[k]⟩ := by
  cases d with
  | str z =>
    obtain ⟨y⟩ := z
    unfold D.sign at h
    have h' : (match y.toList with | [k] => some k | _ => none) = some k := h
    split at h'
    · rename_i k' e
      cases h'
      have : y = #[k] := by rw [← Array.toList_inj]; exact e
      rw [this]
    · cases h'
  | _ => cases h
@[simp] theorem D.sign_one (k : Nat) : (D.str ⟨#[k]⟩).sign = some k := rfl
def O2.inn : O2 K := ⟨rInU K, fun a b φ => match b with
  | .tup ds => a.flat = true ∧ ds.all D.flat = true ∧ φ (.bl (inD a ds))
  | .lst ds => a.flat = true ∧ ds.all D.flat = true ∧ φ (.bl (inD a ds))
  | .str z => ∃ k, a.sign = some k ∧ φ (.bl (decide (k ∈ z.cps.toList)))
  | _ => False, fun {p E χ a b φ} h => by
  split at h
  · exact (o2_inT h.1 h.2.1).to h.2.2
  · exact (o2_inL h.1 h.2.1).to h.2.2
  · obtain ⟨k, e, h⟩ := h
    rw [D.sign_of e]; exact o2_inS.to h
  · exact h.elim⟩
def O2.nin : O2 K := ⟨rNinU K, fun a b φ => match b with
  | .tup ds => a.flat = true ∧ ds.all D.flat = true ∧ φ (.bl (!inD a ds))
  | .lst ds => a.flat = true ∧ ds.all D.flat = true ∧ φ (.bl (!inD a ds))
  | .str z => ∃ k, a.sign = some k ∧ φ (.bl (!decide (k ∈ z.cps.toList)))
  | _ => False, fun {p E χ a b φ} h => by
  split at h
  · exact (o2_ninT h.1 h.2.1).to h.2.2
  · exact (o2_ninL h.1 h.2.1).to h.2.2
  · obtain ⟨k, e, h⟩ := h
    rw [D.sign_of e]; exact o2_ninS.to h
  · exact h.elim⟩
def O2.ix : O2 K := ⟨rIx K, fun a b φ => match a, b with
  | .lst ds, .int i => ∃ d, atI ds i = some d ∧ φ d
  | .tup ds, .int i => ∃ d, atI ds i = some d ∧ φ d
  | .str z, .int i => ∃ k, atI z.cps.toList i = some k ∧ z.length ≤ 1000000 ∧ φ (.str ⟨#[k]⟩)
  | _, _ => False, fun {p E χ a b φ} h => by
  split at h
  · obtain ⟨d, e, h⟩ := h; exact (o2_ixL e).to h
  · obtain ⟨d, e, h⟩ := h; exact (o2_ixT e).to h
  · obtain ⟨k, e, e2, h⟩ := h; exact (o2_ixS e e2).to h
  · exact h.elim⟩
/-! ### built-ins by values -/
def ON.len : ON K := ⟨fun xs H Q => ∃ x n, xs = [x] ∧ LenV K x H n ∧ Q (.int n) H, fun as φ => match as with | [d] => ∃ k : Nat, d.len = some k ∧ φ (.int (k : Int)) | _ => False, fun {p E χ as φ} h => by
  split at h
  · obtain ⟨k, e, h⟩ := h; exact (on_len e).to h
  · exact h.elim⟩
def ON.list : ON K := ⟨fun xs H Q => ∃ p ys, xs = [.ref p] ∧ (SqL K H p ys ∨ SqT K H p ys) ∧ ∀ l, H l = none → Q (.ref l) (upd H l (.lst ys)), fun as φ => match as with | [d] => ∃ ds, d.its = some ds ∧ φ (.lst ds) | _ => False, fun {p E χ as φ} h => by
  split at h
  · obtain ⟨k, e, h⟩ := h; exact (on_list e).to h
  · exact h.elim⟩
def ON.tuple : ON K := ⟨fun xs H Q => ∃ a ys, xs = [.ref a] ∧ ((SqL K H a ys ∧ ∀ l, H l = none → Q (.ref l) (upd H l (.tup ys))) ∨ (SqT K H a ys ∧ Q (.ref a) H)), fun as φ => match as with | [d] => ∃ ds, d.its = some ds ∧ φ (.tup ds) | _ => False, fun {p E χ as φ} h => by
  split at h
  · obtain ⟨k, e, h⟩ := h; exact (on_tuple e).to h
  · exact h.elim⟩
def D.isB : D → Bool
  | .bl _ => true | _ => false
def D.tt : D → Bool
  | .bl b => b | _ => false
def D.isI : D → Bool
  | .int _ => true | _ => false
def D.toI : D → Int
  | .int b => b | _ => 0
def D.isS : D → Bool
  | .str _ => true | _ => false
def D.toS : D → Str
  | .str b => b | _ => ""
theorem isB_map : ∀ {ds : List D}, (ds.all D.isB = true) → ds = (ds.map D.tt).map D.bl
  | [], _ => rfl
  | d :: ds, h => by
    simp only [List.all_cons, Bool.and_eq_true] at h
    cases d with
    | bl b => simp only [List.map_cons, D.tt]; rw [← isB_map h.2]
    | _ => cases h.1
theorem isI_map : ∀ {ds : List D}, (ds.all D.isI = true) → ds = (ds.map D.toI).map D.int
  | [], _ => rfl
  | d :: ds, h => by
    simp only [List.all_cons, Bool.and_eq_true] at h
    cases d with
    | int b => simp only [List.map_cons, D.toI]; rw [← isI_map h.2]
    | _ => cases h.1
theorem isS_map : ∀ {ds : List D}, (ds.all D.isS = true) → ds = (ds.map D.toS).map D.str
  | [], _ => rfl
  | d :: ds, h => by
    simp only [List.all_cons, Bool.and_eq_true] at h
    cases d with
    | str b => simp only [List.map_cons, D.toS]; rw [← isS_map h.2]
    | _ => cases h.1
def ON.all : ON K := ⟨rAll K, fun as φ => match as with | [.lst ds] => ds.all D.isB = true ∧ φ (.bl (ds.all D.tt)) | _ => False, fun {p E χ as φ} h => by
  split at h
  · rename_i ds
    have e := on_all (c := ⟨K, p, E, χ⟩) (bs := ds.map D.tt)
    rw [← isB_map h.1] at e
    refine e.to ?_
    rw [List.all_map]; exact h.2
  · exact h.elim⟩
def ON.any : ON K := ⟨rAny K, fun as φ => match as with | [.lst ds] => ds.all D.isB = true ∧ φ (.bl (ds.any D.tt)) | _ => False, fun {p E χ as φ} h => by
  split at h
  · rename_i ds
    have e := on_any (c := ⟨K, p, E, χ⟩) (bs := ds.map D.tt)
    rw [← isB_map h.1] at e
    refine e.to ?_
    rw [List.any_map]; exact h.2
  · exact h.elim⟩
def ON.sum : ON K := ⟨rSum K, fun as φ => match as with | [.lst ds] => ds.all D.isI = true ∧ φ (.int (ds.map D.toI).sum) | _ => False, fun {p E χ as φ} h => by
  split at h
  · rename_i ds
    have e := on_sum (c := ⟨K, p, E, χ⟩) (ns := ds.map D.toI)
    rw [← isI_map h.1] at e
    exact e.to h.2
  · exact h.elim⟩
def ON.sortedS : ON K := ⟨rSortedS K, fun as φ => match as with | [.lst ds] => ds.all D.isS = true ∧ ds.length < 64 ∧ ∀ ys : List Str, ys.Perm (ds.map D.toS) → PyProof.Rows.sortedS ys = true → φ (.lst (ys.map D.str)) | _ => False, fun {p E χ as φ} h => by
  split at h
  · rename_i ds
    have e := on_sortedS (c := ⟨K, p, E, χ⟩) (ss := ds.map D.toS) (by rw [List.length_map]; exact h.2.1)
    rw [← isS_map h.1] at e
    exact fun x Hd H s ra Q q => e x Hd H s ra Q fun v d' Hd' H' g ⟨ys, e1, e2, e3⟩ r' => q v d' Hd' H' g (by rw [e3]; exact h.2.2 ys e1 e2) r'
  · exact h.elim⟩
def ON.min2 : ON K := ⟨fun xs H Q => ∃ i j, xs = [.int i, .int j] ∧ Q (.int (if j < i then j else i)) H, fun as φ => match as with | [.int i, .int j] => φ (.int (if j < i then j else i)) | _ => False, fun {p E χ as φ} h => by
  split at h
  · exact on_min2.to h
  · exact h.elim⟩
def ON.max2 : ON K := ⟨fun xs H Q => ∃ i j, xs = [.int i, .int j] ∧ Q (.int (if j > i then j else i)) H, fun as φ => match as with | [.int i, .int j] => φ (.int (if j > i then j else i)) | _ => False, fun {p E χ as φ} h => by
  split at h
  · exact on_max2.to h
  · exact h.elim⟩
def ON.int1 : ON K := ⟨fun xs H Q => (∃ i, xs = [.int i] ∧ Q (.int i) H) ∨ ∃ k, xs = [.bl k] ∧ Q (.int (if k then 1 else 0)) H, fun as φ => match as with | [.int i] => φ (.int i) | _ => False, fun {p E χ as φ} h => by
  split at h
  · exact on_int.to h
  · exact h.elim⟩
def ON.strI : ON K := ⟨fun xs H Q => ∃ i, xs = [.int i] ∧ i.natAbs.log2 < 1920 ∧ Q (.str (toString i)) H, fun as φ => match as with | [.int i] => i.natAbs.log2 < 1920 ∧ φ (.str (toString i)) | _ => False, fun {p E χ as φ} h => by
  split at h
  · exact (on_strI h.1).to h.2
  · exact h.elim⟩
def ON.repr : ON K := ⟨rReprD K, fun as φ => match as with | [d] => GD 64 16000000 d ∧ φ (.str d.py.shown) | _ => False, fun {p E χ as φ} h => by
  split at h
  · exact (on_repr h.1).to h.2
  · exact h.elim⟩
/-! ### expressions -/
def WE.var (i : Nat) : WE K E := ⟨tVar i, 0, fun _ Γ φ => match Γ[i]? with | some (.dat d) => φ d | _ => False, fun {p χ Γ φ} h => by
  split at h
  · rename_i d e; exact (ev_var e).fin h
  · exact h.elim⟩
def WE.int (i : Int) : WE K E := ⟨tC (.int i), 0, fun _ Γ φ => φ (.int i), fun {p χ Γ φ} h => ev_int.fin h⟩
def WE.bl (i : Bool) : WE K E := ⟨tC (.bl i), 0, fun _ Γ φ => φ (.bl i), fun {p χ Γ φ} h => ev_bl.fin h⟩
def WE.str (i : Str) : WE K E := ⟨tC (.str i), 0, fun _ Γ φ => φ (.str i), fun {p χ Γ φ} h => ev_str.fin h⟩
def WE.non : WE K E := ⟨tC .non, 0, fun _ Γ φ => φ .non, fun {p χ Γ φ} h => ev_non.fin h⟩
/-- a tuple of the module -/
def WE.ktup {a : Addr} {xs : List V} (ds : List D) (h : ∀ H, SqT K H a xs) (r : ∀ H, Reps K H xs ds) : WE K E := ⟨tC (.ref a), 0, fun _ Γ φ => φ (.tup ds), fun {p χ Γ φ} f => (ev_ktup (c := ⟨K, p, E, χ⟩) h r).fin f⟩
def WE.op (o : O2 K) (a b : WE K E) : WE K E := ⟨tOp o.r a.t b.t, a.m + b.m, fun χ Γ φ => a.w χ Γ fun x => b.w χ Γ fun y => o.w x y φ, fun {p χ Γ φ} h σ Hd H n s sa pe l x Q q =>
  a.ok h σ Hd H n s sa pe (by omega) x _ fun v d Hd1 H1 g1 pe1 f1 r1 => b.ok f1 σ Hd1 H1 (n + a.m) (s.grow g1) g1.s pe1 (by omega) (x.grow g1) _ fun w2 e Hd2 H2 g2 pe2 f2 r2 =>
    o.ok (p := p) (E := E) (χ := χ) f2 v w2 Hd2 H2 g2.s (r1.mono g2.d) r2 Q fun z d3 Hd3 H3 g3 f3 r3 => q z d3 Hd3 H3 ((g1.trans g2).trans g3.up) (by rw [← Nat.add_assoc]; exact pe2.grow g3) f3 r3⟩
def WE.neg (a : WE K E) : WE K E := ⟨tUn (rU fun i => .int (-i)) a.t, a.m, fun χ Γ φ => a.w χ Γ fun d => ∃ i, d = .int i ∧ φ (.int (-i)), fun {p χ Γ φ} h σ Hd H n s sa pe l x Q q =>
  a.ok h σ Hd H n s sa pe l x _ fun v d Hd1 H1 g1 pe1 ⟨i, e, f⟩ r1 => by subst e; cases r1; exact ⟨i, rfl, q _ _ Hd1 H1 g1 pe1 f (.int _)⟩⟩
/-- a < b < c of whole numbers -/
def WE.chain (f g : Int → Int → Bool) (a b d : WE K E) : WE K E := ⟨tChain (rI0 fun i j => V.bl (f i j)) (rI0 fun i j => V.bl (g i j)) a.t b.t d.t, a.m + b.m + d.m,
  fun χ Γ φ => a.w χ Γ fun x => b.w χ Γ fun y => ∃ i j, x = .int i ∧ y = .int j ∧ (f i j = true → d.w χ Γ fun z => ∃ k, z = .int k ∧ φ (.bl (g j k))) ∧ (f i j = false → φ (.bl false)), fun {p χ Γ φ} h σ Hd H n s sa pe l x Q q =>
  a.ok h σ Hd H n s sa pe (by omega) x _ fun v x1 Hd1 H1 g1 pe1 f1 r1 => b.ok f1 σ Hd1 H1 _ (s.grow g1) g1.s pe1 (by omega) (x.grow g1) _ fun v2 d2 Hd2 H2 g2 pe2 ⟨i, j, e, e2, hT, hF⟩ r2 => by
    subst e; subst e2
    cases r1; cases r2
    refine ⟨_, _, rfl, rfl, _, rfl, ?_⟩
    cases hf : f i j with
    | true =>
      refine d.ok (hT hf) σ Hd2 H2 _ (s.grow (g1.trans g2)) g2.s pe2 (by show n + a.m + b.m + d.m ≤ LIM; omega) (x.grow (g1.trans g2)) _ fun v3 d3 Hd3 H3 g3 pe3 ⟨k, e3, f3⟩ r3 => ?_
      subst e3; cases r3
      exact ⟨_, _, rfl, rfl, q _ _ Hd3 H3 ((g1.trans g2).trans g3) (PenO.more pe3 (by omega)) f3 (.bl _)⟩
    | false => exact q _ _ Hd2 H2 (g1.trans g2) (PenO.more pe2 (by omega)) (hF hf) (.bl _)⟩
def WA.nil : WA K E := ⟨tNil, 0, fun _ Γ φ => φ [], fun {p χ Γ φ} h => ea_nil.imp fun _ e => by rw [e]; exact h⟩
def WA.cons (a : WE K E) (r : WA K E) : WA K E := ⟨tCons a.t r.t, a.m + r.m, fun χ Γ φ => a.w χ Γ fun d => r.w χ Γ fun ds => φ (d :: ds), fun {p χ Γ φ} h σ Hd H n s sa pe l x Q q =>
  a.ok h σ Hd H n s sa pe (by omega) x _ fun v d Hd1 H1 g1 pe1 f1 r1 => r.ok f1 σ Hd1 H1 (n + a.m) (s.grow g1) g1.s pe1 (by omega) (x.grow g1) _ fun w2 b Hd2 H2 g2 pe2 f2 r2 =>
    q (v :: w2) (d :: b) Hd2 H2 (g1.trans g2) (by rw [← Nat.add_assoc]; exact pe2) f2 (.cons (r1.mono g2.d) r2)⟩
def WE.tup (a : WA K E) : WE K E := ⟨tTup a.t, a.m, fun χ Γ φ => a.w χ Γ fun ds => ds.length ≤ 1000 ∧ φ (.tup ds), fun {p χ Γ φ} h => (ev_tup (a.ok h) fun ds f => f.1).imp fun d ⟨ds, e, f⟩ => by rw [e]; exact f.2⟩
def WE.lst (a : WA K E) : WE K E := ⟨tLst a.t, a.m, fun χ Γ φ => a.w χ Γ fun ds => ds.length ≤ 1000 ∧ φ (.lst ds), fun {p χ Γ φ} h => (ev_lst (a.ok h) fun ds f => f.1).imp fun d ⟨ds, e, f⟩ => by rw [e]; exact f.2⟩
def WT.tst (a : WE K E) : WT K E := ⟨tTest a.t, a.m, fun χ Γ φ => a.w χ Γ fun d => ∃ b, d = .bl b ∧ φ b, fun {p χ Γ φ} h => eb_test (a.ok h)⟩
def WT.b (a : WE K E) : WT K E := ⟨tB a.t, a.m, fun χ Γ φ => a.w χ Γ fun d => ∃ b, d = .bl b ∧ φ b, fun {p χ Γ φ} h => eb_B (a.ok h)⟩
def WT.not (a : WT K E) : WT K E := ⟨tNot a.t, a.m, fun χ Γ φ => a.w χ Γ fun b => φ (!b), fun {p χ Γ φ} h => (eb_not (β1 := fun b => φ (!b)) (a.ok h)).imp fun b q => by simpa using q⟩
def WT.yes : WT K E := ⟨tYes, 0, fun χ Γ φ => φ true, fun {p χ Γ φ} h => eb_yes.imp fun b e => by rw [e]; exact h⟩
def WT.and (a b : WT K E) : WT K E := ⟨tAnd a.t b.t, a.m + b.m, fun χ Γ φ => a.w χ Γ fun k => (k = true → b.w χ Γ φ) ∧ (k = false → φ false), fun {p χ Γ φ} h => eb_and (a.ok h) (fun f => b.ok (f.1 rfl)) fun f => f.2 rfl⟩
def WT.or (a b : WT K E) : WT K E := ⟨tOr a.t b.t, a.m + b.m, fun χ Γ φ => a.w χ Γ fun k => (k = false → b.w χ Γ φ) ∧ (k = true → φ true), fun {p χ Γ φ} h => eb_or (a.ok h) (fun f => b.ok (f.1 rfl)) fun f => f.2 rfl⟩
def WE.andV (a b : WE K E) : WE K E := ⟨tAndV a.t b.t, a.m + b.m, fun χ Γ φ => a.w χ Γ fun d => ∃ k, d = .bl k ∧ (k = true → b.w χ Γ φ) ∧ (k = false → φ (.bl false)), fun {p χ Γ φ} h => ev_andV (β := fun k => (k = true → b.w χ Γ φ) ∧ (k = false → φ (.bl false))) (a.ok h) (fun f => b.ok (f.1 rfl)) fun f => f.2 rfl⟩
def WE.orV (a b : WE K E) : WE K E := ⟨tOrV a.t b.t, a.m + b.m, fun χ Γ φ => a.w χ Γ fun d => ∃ k, d = .bl k ∧ (k = false → b.w χ Γ φ) ∧ (k = true → φ (.bl true)), fun {p χ Γ φ} h => ev_orV (β := fun k => (k = false → b.w χ Γ φ) ∧ (k = true → φ (.bl true))) (a.ok h) (fun f => b.ok (f.1 rfl)) fun f => f.2 rfl⟩
def WE.notV (a : WE K E) : WE K E := ⟨tNotV a.t, a.m, fun χ Γ φ => a.w χ Γ fun d => ∃ k, d = .bl k ∧ φ (.bl (!k)), fun {p χ Γ φ} h σ Hd H n s sa pe l x Q q =>
  a.ok h σ Hd H n s sa pe l x _ fun v d Hd1 H1 g1 pe1 ⟨k, e, f⟩ r1 => by subst e; cases r1; exact ⟨k, rfl, q _ _ Hd1 H1 g1 pe1 f (.bl _)⟩⟩
def WE.ite (t : WT K E) (a b : WE K E) : WE K E := ⟨tIf t.t a.t b.t, t.m + (a.m + b.m), fun χ Γ φ => t.w χ Γ fun k => (k = true → a.w χ Γ φ) ∧ (k = false → b.w χ Γ φ), fun {p χ Γ φ} h => ev_if (t.ok h) (fun f => (a.ok (f.1 rfl)).more (by omega)) fun f => (b.ok (f.2 rfl)).more (by omega)⟩
def WO.none : WO K E := ⟨tNoPart, 0, fun χ Γ φ => φ .none, fun {p χ Γ φ} h σ Hd H n s sa pe l x Q q => q .none Hd H (.refl sa) pe h⟩
def WO.some (a : WE K E) : WO K E := ⟨tPart a.t, a.m, fun χ Γ φ => a.w χ Γ fun d => ∃ i, d = .int i ∧ φ (.some i), fun {p χ Γ φ} h σ Hd H n s sa pe l x Q q =>
  a.ok h σ Hd H n s sa pe l x _ fun v d Hd1 H1 g1 pe1 ⟨i, e, f⟩ r1 => by subst e; cases r1; exact ⟨i, rfl, q _ Hd1 H1 g1 pe1 f⟩⟩

theorem sl_op {Hd H : Hp} {v : V} {d : D} {lo hi : Option Int} (sa : Same Hd H) (r : Rep K Hd v d) (hs : d.seq = true) {Q : VK} (q : ∀ v Hd' H', Grow none Hd H Hd' H' → Rep K Hd' v (d.cut lo hi) → Q v H') : rSlU K v lo hi H Q := by
  cases r with
  | tup h1 r =>
    rename_i a xs ds
    refine .inl ⟨a, xs, rfl, same_sqt sa h1, fun e => ?_, fun ne p hp => ?_⟩
    · have e' : cutD ds lo hi = ds := by
        unfold cutD
        rw [r.length] at e
        rw [e.1, e.2, List.drop_zero, Nat.sub_zero, List.take_length]
      exact q _ Hd H (.refl sa) (by show Rep K Hd _ (D.tup (cutD ds lo hi)); rw [e']; exact .tup h1 r)
    · have g := Grow.new (p := none) (o := HO.tup (cutV xs lo hi)) sa hp
      exact q _ _ _ g (.tup (SqT.of upd_same) ((r.cut lo hi).mono g.d))
  | lst h1 r =>
    rename_i a xs ds
    refine .inr (.inl ⟨a, xs, rfl, SqL.of (sa _ _ h1), fun p hp => ?_⟩)
    have g := Grow.new (p := none) (o := HO.lst (cutV xs lo hi)) sa hp
    exact q _ _ _ g (.lst upd_same ((r.cut lo hi).mono g.d))
  | str z =>
    have hz : z.length ≤ 1000000 := of_decide_eq_true hs
    exact .inr (.inr ⟨z, rfl, by rw [sizeLine_eq]; omega, q _ Hd H (.refl sa) (.str _)⟩)
  | _ => cases hs
def WE.sl (a : WE K E) (lo hi : WO K E) : WE K E := ⟨tSl (rSlU K) a.t lo.t hi.t, a.m + lo.m + hi.m, fun χ Γ φ => a.w χ Γ fun d => lo.w χ Γ fun l => hi.w χ Γ fun h => d.seq = true ∧ φ (d.cut l h), fun {p χ Γ φ} h σ Hd H n s sa pe l x Q q =>
  a.ok h σ Hd H n s sa pe (by omega) x _ fun v d Hd1 H1 g1 pe1 f1 r1 => lo.ok f1 σ Hd1 H1 _ (s.grow g1) g1.s pe1 (by omega) (x.grow g1) _ fun lo1 Hd2 H2 g2 pe2 f2 => hi.ok f2 σ Hd2 H2 _ (s.grow (g1.trans g2)) g2.s pe2 (by show n + a.m + lo.m + hi.m ≤ LIM; omega) (x.grow (g1.trans g2)) _ fun hi1 Hd3 H3 g3 pe3 f3 => by
    have gg := (g1.trans g2).trans g3
    have e3 : n + a.m + lo.m + hi.m = n + (a.m + lo.m + hi.m) := by omega
    rw [e3] at pe3
    exact sl_op g3.s (r1.mono (g2.trans g3).d) f3.1 fun v' Hd' H' g r => q v' _ Hd' H' (gg.trans g.up) (pe3.grow g) f3.2 r⟩
def WE.cb (o : ON K) (a : WA K E) : WE K E := ⟨tCB o.r a.t, a.m, fun χ Γ φ => a.w χ Γ fun ds => o.w ds φ, fun {p χ Γ φ} h σ Hd H n s sa pe l x Q q =>
  a.ok h σ Hd H n s sa pe l x _ fun vs ds Hd1 H1 g1 pe1 f r => o.ok (p := p) (E := E) (χ := χ) f vs Hd1 H1 g1.s r Q fun v d Hd2 H2 g2 f2 r2 => q v d Hd2 H2 (g1.trans g2.up) (pe1.grow g2) f2 r2⟩
def WE.isi (T : String) (a : WE K E) (hT : T ∈ isiTys := by decide) : WE K E := ⟨tCB (rIsi K) (tCons a.t (tCons (tC (.ty T)) tNil)), a.m, fun χ Γ φ => a.w χ Γ fun d => d.builtin = true ∧ φ (.bl (isiB d T)), fun {p χ Γ φ} h σ Hd H n s sa pe l x Q q =>
  a.ok h σ Hd H n s sa pe l x _ fun v d Hd1 H1 g1 pe1 f r =>
    on_isi (c := ⟨K, p, E, χ⟩) f.1 (kit_isi f.1 hT) _ Hd1 H1 g1.s ⟨v, r, rfl⟩ Q (q _ _ Hd1 H1 g1 pe1 f.2 (.bl _))⟩
def WE.isi2 (T U : String) (a : WE K E) (hT : T ∈ isiTys := by decide) (hU : U ∈ isiTys := by decide) : WE K E := ⟨tCB (rIsiT K) (tCons a.t (tCons (tTup (tCons (tC (.ty T)) (tCons (tC (.ty U)) tNil))) tNil)), a.m, fun χ Γ φ => a.w χ Γ fun d => d.builtin = true ∧ φ (.bl (isiB d T || isiB d U)), fun {p χ Γ φ} h σ Hd H n s sa pe l x Q q =>
  a.ok h σ Hd H n s sa pe l x _ fun v d Hd1 H1 g1 pe1 f r => by
    refine ⟨by rw [sizeLine_eq]; show 2 ≤ _; omega, fun p hp => ?_⟩
    have g := Grow.new (p := none) (o := HO.tup [V.ty T, V.ty U]) g1.s hp
    have hk := kitL_isi (d := d) (Ts := [T, U]) f.1 (by intro V hV; simp only [List.mem_cons, List.not_mem_nil, or_false] at hV; rcases hV with rfl | rfl <;> assumption)
    refine ⟨v, p, _, _, _, _, rfl, upd_same, cls_all [T, U], rep_ty (g.d.trans g.s) f.1 r, kitL_any hk, q _ _ _ _ (g1.trans g.up) (pe1.grow g) ?_ (.bl _)⟩
    have e : ([T, U].any (isiB d)) = (isiB d T || isiB d U) := by simp
    rw [e]; exact f.2⟩
/-! calls of defs -/
def WE.call (pre : List D → Prop) (post : List D → D → Prop) (a : WA K E) : WE K E := ⟨tCall (SpP K pre post) [] L2.E0 a.t, a.m, fun χ Γ φ => a.w χ Γ fun ds => pre ds ∧ ∀ d, post ds d → φ d, fun {p χ Γ φ} h =>
  ev_call rfl (a.ok h) (fun ds f => f.1) fun ds d f k => f.2 d k⟩
def WE.callD {dvs : List V} {des : List D} (pre : List D → Prop) (post : List D → D → Prop) (hd : ∀ H, Reps K H dvs des) (a : WA K E) : WE K E := ⟨tCall (SpP K pre post) dvs L2.E0 a.t, a.m, fun χ Γ φ => a.w χ Γ fun ds => pre (ds ++ des) ∧ ∀ d, post (ds ++ des) d → φ d, fun {p χ Γ φ} h σ Hd H n s sa pe l x Q q =>
  a.ok h σ Hd H n s sa pe l x _ fun vs ds' Hd1 H1 g1 pe1 f rr => ⟨Hd1, ds' ++ des, g1.s, rr.append (hd Hd1), f.1, fun v d Hd2 H2 g2 f2 r2 => q v d Hd2 H2 (g1.trans g2.up) (pe1.grow g2) (f.2 d f2) r2⟩⟩
def WE.callX (pre : List D → Prop) (post : List D → D → Prop) (χ' : List D → Xq) (a : WA K E) : WE K E := ⟨tCall (SpX K pre post χ') [] E a.t, a.m, fun χ Γ φ => a.w χ Γ fun ds => pre ds ∧ (∀ d, post ds d → φ d) ∧ ∀ C fs, χ' ds C fs → χ C fs, fun {p χ Γ φ} h =>
  ev_callX rfl rfl (a.ok h) (fun ds f => f.1) (fun ds d f k => f.2.1 d k) fun ds C fs f k => f.2.2 C fs k⟩
/-- by the pen -/
def WE.callG (k : Nat) (pre : List D → Prop) (post : List D → D → Prop) (i : Nat) (a : WA K E) : WE K E := ⟨tCall (SpG K k pre post) [] L2.E0 (tCons (tVar i) a.t), a.m + k, fun χ Γ φ => Γ[i]? = some .pen ∧ a.w χ Γ fun ds => pre ds ∧ ∀ d, post ds d → φ d, fun {p χ Γ φ} h =>
  ev_callG rfl h.1 (a.ok h.2) (fun ds f => f.1) fun ds d f k => f.2 d k⟩
def WE.split (a b : WE K E) : WE K E := ⟨tM1 rSplitD a.t b.t, a.m + b.m, fun χ Γ φ => a.w χ Γ fun x => ∃ z, x = .str z ∧ b.w χ Γ fun y => ∃ u, y = .str u ∧ (u.length == 0) = false ∧ z.length ≤ 1000000 ∧ φ (.lst ((Txt.split z u).map .str)), fun {p χ Γ φ} h σ Hd H n s sa pe l x Q q =>
  a.ok h σ Hd H n s sa pe (by omega) x _ fun v d Hd1 H1 g1 pe1 ⟨z, e, f1⟩ r1 => by
    subst e; cases r1
    refine ⟨⟨z, rfl⟩, b.ok f1 σ Hd1 H1 _ (s.grow g1) g1.s pe1 (by omega) (x.grow g1) _ fun v d Hd2 H2 g2 pe2 ⟨u, e, hb, ha, f2⟩ r2 => ?_⟩
    subst e; cases r2
    refine ⟨z, u, rfl, rfl, hb, by rw [sizeLine_eq]; omega, fun p hp => ?_⟩
    have g := Grow.new (p := none) (o := HO.lst ((Txt.split z u).map V.str)) g2.s hp
    exact q _ _ _ _ ((g1.trans g2).trans g.up) (by rw [← Nat.add_assoc]; exact pe2.grow g) f2 (.lst upd_same (reps_strs _))⟩
def WE.dget (a b : WE K E) : WE K E := ⟨tDGet a.t b.t, a.m + b.m, fun χ Γ φ => a.w χ Γ fun x => b.w χ Γ fun y => match x with | .dct ks ds => ∃ j d, y = keyD j ∧ valD ks ds j = some d ∧ φ d | _ => False, fun {p χ Γ φ} h σ Hd H n s sa pe l x Q q =>
  a.ok h σ Hd H n s sa pe (by omega) x _ fun v d' Hd1 H1 g1 pe1 f1 r1 => b.ok f1 σ Hd1 H1 _ (s.grow g1) g1.s pe1 (by omega) (x.grow g1) _ fun v2 d2 Hd2 H2 g2 pe2 f2 r2 => by
    cases r1 with
    | dct z1 z2 z3 =>
      obtain ⟨j, d, e, hv, f2⟩ := f2
      subst e
      obtain ⟨w, q1, q2⟩ := valV_zip (z3.mono g2.d) hv
      have ek : v2 = kV j := by cases j <;> (cases r2; rfl)
      subst ek
      exact ⟨_, w, rfl, by rw [← q1]; exact DGet.k (g2.s _ _ (g2.d _ _ z1)), q w _ Hd2 H2 (g1.trans g2) (by rw [← Nat.add_assoc]; exact pe2) f2 q2⟩
    | _ => exact f2.elim⟩
/-! dicts written -/
structure WD (K : PySem.W.Frag) (E : XK) where
  t : List (TE × TE)
  ks : List Key
  m : Nat
  w : Xq → List Sk → (List D → Prop) → Prop
  ok : ∀ {p : Pn} {χ : Xq} {Γ : List Sk} {φ : List D → Prop}, w χ Γ φ → ∀ σ Hd H n, SR K p Hd H σ Γ → Same Hd H → PenO p n Hd H → n + m ≤ LIM → Xs ⟨K, p, E, χ⟩ Hd H → ∀ Q : List (V × V) → Hp → Prop,
    (∀ vs ds Hd' H', Grow p.a Hd H Hd' H' → PenO p (n + m) Hd' H' → φ ds → Reps K Hd' vs ds → ks.length = vs.length → Q ((ks.zip vs).map fun kv => (kV kv.1, kv.2)) H') → tPairs t σ H Q
def WD.nil : WD K E := ⟨[], [], 0, fun χ Γ φ => φ [], fun {p χ Γ φ} h σ Hd H n s sa pe l x Q q => q [] [] Hd H (.refl sa) pe h .nil rfl⟩
def WD.cons (k : Str) (a : WE K E) (r : WD K E) : WD K E := ⟨(tC (.str k), a.t) :: r.t, .inr k :: r.ks, a.m + r.m, fun χ Γ φ => a.w χ Γ fun d => r.w χ Γ fun ds => φ (d :: ds), fun {p χ Γ φ} h σ Hd H n s sa pe l x Q q =>
  a.ok h σ Hd H n s sa pe (by omega) x _ fun v d Hd1 H1 g1 pe1 f1 r1 => r.ok f1 σ Hd1 H1 (n + a.m) (s.grow g1) g1.s pe1 (by omega) (x.grow g1) _ fun vs ds Hd2 H2 g2 pe2 f2 r2 hl =>
    q (v :: vs) (d :: ds) Hd2 H2 (g1.trans g2) (by rw [← Nat.add_assoc]; exact pe2) f2 (.cons (r1.mono g2.d) r2) (by rw [List.length_cons, List.length_cons, hl])⟩
theorem putK_new {kvs : List (Key × V)} {k : Key} {v : V} (h : k ∉ kvs.map (·.1)) : putK kvs k v = kvs ++ [(k, v)] := by
  unfold putK
  rw [if_neg]
  intro z
  obtain ⟨x, hx, e⟩ := List.any_eq_true.mp z
  exact h (List.mem_map.mpr ⟨x, hx, of_decide_eq_true e⟩)
theorem mergeK_new : ∀ {more kvs : List (Key × V)}, (kvs.map (·.1) ++ more.map (·.1)).Nodup → mergeK kvs more = kvs ++ more
  | [], kvs, _ => by simp [mergeK]
  | (k, v) :: more, kvs, h => by
    have h1 : k ∉ kvs.map (·.1) := by
      intro z
      rw [List.nodup_append] at h
      exact h.2.2 k z k (by simp) rfl
    show mergeK (putK kvs k v) more = _
    rw [putK_new h1, mergeK_new (by rw [List.map_append, List.append_assoc]; exact h), List.append_assoc]
    rfl
def WE.disp (a : WD K E) (hn : a.ks.Nodup) (hl : a.ks.length ≤ 15) : WE K E := ⟨tDisp a.t, a.m, fun χ Γ φ => a.w χ Γ fun ds => φ (.dct a.ks ds), fun {p χ Γ φ} h σ Hd H n s sa pe l x Q q => fun Da hD => by
  have nd : Hd Da = none := sa.free hD
  have npa : p.a ≠ some Da := fun z => by
    cases hp : p with
    | none => rw [hp] at z; cases z
    | some ac =>
      rw [hp] at z pe
      have z' : ac.1 = Da := by simpa using z
      obtain ⟨⟨i, dg, ct, fd, e1, _⟩, _⟩ := pe
      rw [z', hD] at e1; cases e1
  have g0 : Grow p.a Hd H Hd (upd H Da (.dK [])) := Grow.loc sa hD
  refine a.ok h σ Hd _ n (s.grow g0) g0.s (pe.write npa) l (x.grow g0) _ fun vs ds Hd1 H1 g1 pe1 f r hk => ?_
  have eD : H1 Da = some (.dK []) := g1.h _ _ npa upd_same
  have nd1 : Hd1 Da = none := g1.f _ (by rw [upd_same]; simp) nd
  refine ⟨eD, a.ks.zip vs, rfl, by rw [List.length_zip]; omega, ?_⟩
  have em : mergeK [] (a.ks.zip vs) = a.ks.zip vs := by
    rw [mergeK_new]
    · rfl
    · show (List.map (·.1) (a.ks.zip vs)).Nodup
      rw [List.map_fst_zip (by omega)]; exact hn
  rw [em]
  have gw : Grow p.a Hd H Hd1 (upd H1 Da (.dK (a.ks.zip vs))) := (g0.trans g1).write hD nd1
  have gf : Grow p.a Hd H (upd Hd1 Da (.dK (a.ks.zip vs))) (upd H1 Da (.dK (a.ks.zip vs))) := gw.freeze sa hD nd1 upd_same
  exact q _ (.dct a.ks ds) _ _ gf ((pe1.write npa).freeze npa nd1) f (.dct upd_same hk (r.mono fun b u e => by rw [upd_ne (ne_of_none e nd1)]; exact e))⟩
/-! ### iteration -/
def WI.seq (a : WE K E) : WI K E := ⟨iSeq K a.t, a.m, fun χ Γ φ => a.w χ Γ fun d => ∃ ds, itemsOf d = some ds ∧ φ ds, fun {p χ Γ φ} h => ei_seq (c := ⟨K, p, E, χ⟩) (a.ok h)⟩
def WI.rng1 (a : WA K E) : WI K E := ⟨iRng1 a.t, a.m, fun χ Γ φ => a.w χ Γ fun ds => ∃ n, ds = [.int n] ∧ (-(2 ^ 62) ≤ n ∧ n < 2 ^ 62) ∧ φ (rngD 0 n.toNat), fun {p χ Γ φ} h => (ei_rng1 (c := ⟨K, p, E, χ⟩) (ι := fun n => (-(2 ^ 62) ≤ n ∧ n < 2 ^ 62) ∧ φ (rngD 0 n.toNat)) (a.ok h) fun n f => f.1).imp fun ds ⟨n, f, e⟩ => by rw [e]; exact f.2⟩
def WI.rng2 (a : WA K E) : WI K E := ⟨iRng2 a.t, a.m, fun χ Γ φ => a.w χ Γ fun ds => ∃ i n, ds = [.int i, .int n] ∧ (-(2 ^ 62) ≤ i ∧ i < 2 ^ 62 ∧ -(2 ^ 62) ≤ n ∧ n < 2 ^ 62) ∧ φ (rngD i (n - i).toNat), fun {p χ Γ φ} h σ Hd H n' s sa pe l x R q =>
  a.ok h σ Hd H n' s sa pe l x _ fun vs ds Hd1 H1 g1 pe1 ⟨i, n, e, b, f⟩ r1 => by
    subst e
    cases r1 with | cons a r => cases r with | cons a' r => cases r; cases a; cases a'; exact ⟨i, n, rfl, b, q _ _ Hd1 H1 g1 pe1 f (itd_rng i _)⟩⟩
def WI.enum (a : WA K E) : WI K E := ⟨iEnum K a.t, a.m, fun χ Γ φ => a.w χ Γ fun as => ∃ ds, as = [.lst ds] ∧ φ (enumD ds), fun {p χ Γ φ} h => (ei_enum (c := ⟨K, p, E, χ⟩) (ψ := fun ds => φ (enumD ds)) (a.ok h)).imp fun es ⟨ds, f, e⟩ => by rw [e]; exact f⟩
def WI.zip (a : WA K E) : WI K E := ⟨RZ.iZipA K a.t, a.m, fun χ Γ φ => a.w χ Γ fun as => ∃ ds es, (as = [.lst ds, .lst es] ∨ as = [.tup ds, .tup es]) ∧ φ (zipD ds es), fun {p χ Γ φ} h σ Hd H n s sa pe l x R q =>
  a.ok h σ Hd H n s sa pe l x _ fun vs as Hd1 H1 g1 pe1 ⟨ds, es, e, f⟩ r1 => by
    rcases e with e | e
    · subst e
      rcases r1 with _ | ⟨a, _ | ⟨a', _ | _⟩⟩
      cases a with | lst h1 r => cases a' with | lst h2 r2 => exact ⟨_, _, _, _, rfl, .inl ⟨SqL.of (g1.s _ _ h1), SqL.of (g1.s _ _ h2), q _ _ Hd1 H1 g1 pe1 f (itd_zip h1 r h2 r2)⟩⟩
    · subst e
      rcases r1 with _ | ⟨a, _ | ⟨a', _ | _⟩⟩
      cases a with | tup h1 r => cases a' with | tup h2 r2 => exact ⟨_, _, _, _, rfl, .inr ⟨same_sqt g1.s h1, same_sqt g1.s h2, q _ _ Hd1 H1 g1 pe1 f (itd_zipT h1 r h2 r2)⟩⟩⟩
/-! ### targets -/
def WG.name (i : Nat) : WG K := ⟨gName i, [i], fun d => some [(i, d)], fun {d l} e j hj => by cases e; exact hj, fun {p E χ d l} e => by cases e; exact tg_name⟩
def WGs.nil : WGs K := ⟨gNil, [], 0, fun ds => match ds with | [] => some [] | _ => none, fun {d l} e j hj => by split at e <;> cases e; exact hj, fun {d l} e => by split at e <;> cases e; rfl, fun {p E χ d l} e => by split at e <;> cases e; exact tgs_nil⟩
def WGs.cons (a : WG K) (r : WGs K) : WGs K where
  t := gCons a.t r.t
  is := a.is ++ r.is
  n := r.n + 1
  ps := fun ds => match ds with | d :: ds => (a.ps d).bind fun l => (r.ps ds).bind fun l2 => some (l ++ l2) | [] => none
  sub := fun {d l} e j hj => by
    split at e
    · obtain ⟨l1, e1, e⟩ := Option.bind_eq_some_iff.mp e
      obtain ⟨l2, e2, e⟩ := Option.bind_eq_some_iff.mp e
      cases e
      rw [List.map_append, List.mem_append] at hj
      exact List.mem_append.mpr (hj.imp (a.sub e1 j) (r.sub e2 j))
    · cases e
  len := fun {d l} e => by
    split at e
    · obtain ⟨l1, e1, e⟩ := Option.bind_eq_some_iff.mp e
      obtain ⟨l2, e2, e⟩ := Option.bind_eq_some_iff.mp e
      rw [List.length_cons, r.len e2]
    · cases e
  ok := fun {p E χ d l} e => by
    split at e
    · obtain ⟨l1, e1, e⟩ := Option.bind_eq_some_iff.mp e
      obtain ⟨l2, e2, e⟩ := Option.bind_eq_some_iff.mp e
      cases e
      exact tgs_cons (a.ok e1) (r.ok e2)
    · cases e
def WG.tup (r : WGs K) : WG K where
  t := gTup K r.n r.t
  is := r.is
  ps := fun d => match d with | .tup ds => r.ps ds | _ => none
  sub := fun {d l} e => by
    split at e
    · exact r.sub e
    · cases e
  ok := fun {p E χ d l} e => by
    split at e
    · exact tg_tup (c := ⟨K, p, E, χ⟩) (r.ok e) (r.len e)
    · cases e
def WG.seq (r : WGs K) : WG K where
  t := gSeq K r.n r.t
  is := r.is
  ps := fun d => match d.its with | some ds => r.ps ds | none => none
  sub := fun {d l} e => by
    split at e
    · exact r.sub e
    · cases e
  ok := fun {p E χ d l} e => by
    split at e
    · rename_i h; exact tg_seq (c := ⟨K, p, E, χ⟩) h (r.ok e) (r.len e)
    · cases e
/-! ### comprehensions -/
def LcP (g : WG K) (tt : WT K E) (te : WE K E) (χ : Xq) (Γ : List Sk) (L : Nat) (ds : List D) (φ : D → Prop) : Prop := ds.length ≤ L ∧ ∃ (T : D → Bool → Prop) (F : D → D → Prop),
  (∀ d ∈ ds, ∃ ps, g.ps d = some ps ∧ tt.w χ (setD (wipeG Γ g.is) ps) (T d) ∧ (T d true → te.w χ (setD (wipeG Γ g.is) ps) (F d))) ∧ ∀ es, Cmp T F ds es → φ (.lst es)
theorem ev_lcW (wi : WI K E) (g : WG K) (tt : WT K E) (te : WE K E) {L : Nat} (hz : L < 1000000) {p : Pn} {χ : Xq} {Γ : List Sk} {φ : D → Prop} (hi : wi.w χ Γ fun ds => LcP g tt te χ Γ L ds φ) :
    Ev ⟨K, p, E, χ⟩ (tLc wi.t g.t tt.t te.t g.is) Γ (wi.m + L * (tt.m + te.m)) φ := fun σ Hd H n s sa pe l x Q q => by
  have hLc : n + wi.m ≤ LIM := by have := Nat.zero_le (L * (tt.m + te.m)); omega
  refine wi.ok hi σ Hd H n s sa pe hLc x _ fun J ds Hd1 H1 g1 pe1 f J1 => fun Da hD => ?_
  obtain ⟨hl, T, F, h, fin⟩ := f
  have nd1 : Hd1 Da = none := g1.s.free hD
  have npa : p.a ≠ some Da := fun z => by
    cases hp : p with
    | none => rw [hp] at z; cases z
    | some ac =>
      rw [hp] at z pe1
      have z' : ac.1 = Da := by simpa using z
      obtain ⟨⟨i, dg, ct, fd, e1, _⟩, _⟩ := pe1
      rw [z', hD] at e1; cases e1
  let Pv : Nat → Hp → Prop := fun i Hx => ∃ Hd2 acc es, Grow p.a Hd1 H1 Hd2 Hx ∧ Hx Da = some (.lst acc) ∧ Hd2 Da = none ∧ PenO p (n + wi.m + i * (tt.m + te.m)) Hd2 Hx ∧ Reps K Hd2 acc es ∧ Cmp T F (ds.take i) es
  have key : ∀ i, i ≤ ds.length → i * (tt.m + te.m) ≤ L * (tt.m + te.m) := fun i hi => Nat.mul_le_mul_right _ (by omega)
  refine ⟨fun i m Hx => m = ds.length - i ∧ i ≤ ds.length ∧ Pv i Hx, ⟨ds.length, by simp, Nat.zero_le _, Hd1, [], [], Grow.loc g1.s hD, upd_same, nd1, ?_, .nil, .nil⟩, ?_⟩
  · have := pe1.write (b := Da) (o := .lst []) npa
    simpa using this
  rintro i m Hx ⟨rfl, hi, Hd2, acc, es, gx, hx, nd, px, rx, cx⟩
  obtain ⟨go, stop, yld⟩ := J1 Hd2 Hx gx.d gx.s
  by_cases hlt : i < ds.length
  · refine .inr ⟨go i hlt, Pv (i + 1), fun H' p' => ⟨ds.length - (i + 1), by omega, rfl, hlt, p'⟩, fun v Hy hy => ?_⟩
    have hd : ds[i]? = some ds[i] := by simp
    obtain ⟨Hd3, g3, r3⟩ := yld i v Hy hy _ hd
    obtain ⟨ps, hgp, hb, he⟩ := h ds[i] (List.getElem_mem hlt)
    have tg := g.ok (p := p) (E := E) (χ := χ) hgp
    have hps := g.sub hgp
    have hb := tt.ok (p := p) hb
    have he := fun z => te.ok (p := p) (he z)
    have gT : Grow p.a Hd H Hd3 Hy := ⟨(g1.d.trans gx.d).trans g3.d, fun b o ne e => g3.h b o (by simp) (gx.h b o ne (g1.h b o ne e)), g3.s, fun a ha na => g3.f a (gx.m a (g1.m a ha)) (gx.f a (g1.m a ha) (g1.f a ha na)), fun a ha => g3.m a (gx.m a (g1.m a ha))⟩
    have sT : SR K p Hd3 Hy (wipe σ g.is) (wipeG Γ g.is) := (s.grow gT).wipe g.is
    refine tg _ Hd3 Hy v _ sT g3.s r3 _ fun σ2 s2 l2 k2 => ?_
    have l2' : σ2.length = σ.length := by rw [l2, wipe_length]
    refine ⟨wipe_eq k2 l2' hps, ?_⟩
    have p3 := px.grow g3
    have kk := key (i + 1) hlt
    have e1 : (i + 1) * (tt.m + te.m) = i * (tt.m + te.m) + (tt.m + te.m) := Nat.succ_mul _ _
    have hDy : Hy Da = some (.lst acc) := g3.h _ _ (by simp) hx
    have nd3 : Hd3 Da = none := g3.f _ (by rw [hx]; simp) nd
    refine hb σ2 Hd3 Hy _ s2 g3.s p3 (by omega) (x.grow gT) _ fun b Hd4 H4 g4 p4 t4 => ?_
    cases b with
    | true =>
      show te.t σ2 H4 _
      refine he t4 σ2 Hd4 H4 _ (s2.grow g4) g4.s p4 (by omega) (x.grow (gT.trans g4)) _ fun y d Hd5 H5 g5 p5 f5 r5 => ?_
      have g45 := g4.trans g5
      have hD5 : H5 Da = some (.lst acc) := g45.h _ _ npa hDy
      have nd5 : Hd5 Da = none := g45.f _ (by rw [hDy]; simp) nd3
      have hla : acc.length = es.length := rx.length
      have hle := cx.len
      refine ⟨acc, hD5, ?_, Hd5, acc ++ [y], es ++ [d], (gx.trans (g3.up.trans g45)).write hD nd5, upd_same, nd5, ?_, (rx.mono (g3.d.trans g45.d)).append (.cons r5 .nil), ?_⟩
      · rw [List.length_take] at hle
        rw [hla, sizeLine_eq]; omega
      · refine PenO.more (p5.write npa) (by omega)
      · rw [List.take_add_one, hd]; exact .take t4 f5 cx
    | false =>
      show Pv (i + 1) H4
      refine ⟨Hd4, acc, es, gx.trans (g3.up.trans g4), g4.h _ _ npa hDy, g4.f _ (by rw [hDy]; simp) nd3, PenO.more p4 (by omega), rx.mono (g3.d.trans g4.d), ?_⟩
      rw [List.take_add_one, hd]; exact .skip t4 cx
  · have e : i = ds.length := by omega
    subst e
    refine .inl ⟨stop _ (Nat.le_refl _), ?_⟩
    have kk := key _ (Nat.le_refl ds.length)
    rw [List.take_length] at cx
    have gf := (g1.trans gx)
    have gz : Grow p.a Hd H (upd Hd2 Da (.lst acc)) Hx := gf.freeze sa (g1.free hD) nd hx
    exact q (.ref Da) (.lst es) _ _ gz (PenO.more (px.freeze npa nd) (by omega)) (fin es cx) (.lst upd_same (rx.mono fun b u e => by rw [upd_ne (ne_of_none e nd)]; exact e))
/-! ### for -/
def ForP (g : WG K) (tb : WS K E) (χ : Xq) (Γ : List Sk) (L : Nat) (W : Wh) (ds : List D) : Prop := ds.length ≤ L ∧ ∃ Iv : Nat → List Sk → Prop, Iv 0 Γ ∧
  (∀ i d Γ', ds[i]? = some d → Iv i Γ' → ∃ ps, g.ps d = some ps ∧ tb.w χ (setD Γ' ps) { N := Iv (i + 1), C := Iv (i + 1), B := W.N, R := W.R }) ∧ ∀ Γ', Iv ds.length Γ' → W.N Γ'
theorem wp_forW (wi : WI K E) (g : WG K) (tb : WS K E) {L : Nat} {p : Pn} {χ : Xq} {Γ : List Sk} {W : Wh} (hi : wi.w χ Γ fun ds => ForP g tb χ Γ L W ds) : Wp ⟨K, p, E, χ⟩ (tFor wi.t g.t tb.t) Γ (wi.m + L * tb.m) W := fun Hb Hd0 H0 σ Hd H n o l x En k1 k2 k3 k4 => by
  have hm : n + wi.m ≤ LIM := by have := Nat.zero_le (L * tb.m); omega
  refine wi.ok hi σ Hd H n o.sr o.g.s o.pe hm (x.grow o.g) _ fun J ds Hd1 H1 g1 pe1 f J1 => ?_
  obtain ⟨hl, Iv, h0, hs, hd⟩ := f
  have key : ∀ i, i ≤ ds.length → i * tb.m ≤ L * tb.m := fun i hi => Nat.mul_le_mul_right _ (by omega)
  have o1 := o.grow g1 pe1
  let Pv : Nat → L2.St → Hp → Prop := fun i σx Hx => ∃ Γx Hdx, Iv i Γx ∧ Ok ⟨K, p, E, χ⟩ Hd1 Hd0 H0 σx Γx Hdx Hx (n + wi.m + i * tb.m)
  refine ⟨fun i m σx Hx => m = ds.length - i ∧ i ≤ ds.length ∧ Pv i σx Hx, ⟨ds.length, by simp, Nat.zero_le _, Γ, Hd1, h0, ⟨Same.refl _, o1.s0, o1.g, o1.sr, by rw [Nat.zero_mul]; exact o1.pe, o1.fr⟩⟩, ?_⟩
  rintro i m σx Hx ⟨rfl, hi, Γx, Hdx, ivx, ox⟩
  obtain ⟨go, stop, yld⟩ := J1 Hdx Hx ox.b ox.g.s
  have back : ∀ {σ' Γ' Hd' H' k}, Ok ⟨K, p, E, χ⟩ Hd1 Hd0 H0 σ' Γ' Hd' H' k → Ok ⟨K, p, E, χ⟩ Hb Hd0 H0 σ' Γ' Hd' H' k := fun o' => ⟨(o.b.trans g1.d).trans o'.b, o'.s0, o'.g, o'.sr, o'.pe, o'.fr⟩
  by_cases hlt : i < ds.length
  · refine .inr ⟨go i hlt, Pv (i + 1), fun σ' H' p' => ⟨ds.length - (i + 1), by omega, rfl, hlt, p'⟩, fun v Hy hy => ?_⟩
    have hd' : ds[i]? = some ds[i] := by simp
    obtain ⟨Hd3, g3, r3⟩ := yld i v Hy hy _ hd'
    obtain ⟨ps, hgp, hb⟩ := hs i _ Γx hd' ivx
    have tg := g.ok (p := p) (E := E) (χ := χ) hgp
    have hb := tb.ok (p := p) hb
    have o3 := ox.grow g3.up (ox.pe.grow g3)
    have kk := key (i + 1) hlt
    have e1 : (i + 1) * tb.m = i * tb.m + tb.m := Nat.succ_mul _ _
    refine tg σx Hd3 Hy v Γx o3.sr o3.g.s r3 _ fun σ2 s2 _ q2 => ?_
    have o4 := o3.tg s2 q2
    refine hb Hd1 Hd0 H0 σ2 Hd3 Hy _ o4 (by omega) x _ ?_ ?_ ?_ ?_
    · intro Γ' σ' Hd' H' iv o5; exact ⟨Γ', Hd', iv, o5.more (by omega)⟩
    · intro Γ' σ' Hd' H' iv o5; exact k1 Γ' σ' Hd' H' iv (back (o5.more (by omega)))
    · intro Γ' σ' Hd' H' iv o5; exact ⟨Γ', Hd', iv, o5.more (by omega)⟩
    · intro v d Hd' H' iv g pe r; exact k4 v d Hd' H' iv g (pe.more (by omega)) r
  · have e : i = ds.length := by omega
    subst e
    have kk := key _ (Nat.le_refl ds.length)
    exact .inl ⟨stop _ (Nat.le_refl _), k1 _ _ _ _ (hd Γx ivx) (back (ox.more (by omega)))⟩

def WE.lc (wi : WI K E) (g : WG K) (tt : WT K E) (te : WE K E) (L : Nat) (hz : L < 1000000 := by decide) : WE K E := ⟨tLc wi.t g.t tt.t te.t g.is, wi.m + L * (tt.m + te.m), fun χ Γ φ => wi.w χ Γ fun ds => LcP g tt te χ Γ L ds φ, fun {p χ Γ φ} h => ev_lcW wi g tt te hz h⟩
/-- a local list seen as data -/
def WE.borrow (i : Nat) (a : WE K E) : WE K E := ⟨a.t, a.m, fun χ Γ φ => match Γ[i]? with | some (.own ds) => a.w noX (Γ.set i (.dat (.lst ds))) fun d => scalar d = true ∧ φ d | _ => False, fun {p χ Γ φ} h => by
  split at h
  · rename_i ds e
    have q := ev_borrow (c := ⟨K, p, E, noX⟩) e (a.ok h) (fun d f => f.1) (fun _ _ z => z)
    exact fun σ Hd H n s sa pe l x Q k => q σ Hd H n s sa pe l (fun _ _ _ _ _ _ z _ => z.elim) Q fun v d Hd' H' g pe' f r => k v d Hd' H' g pe' f.2 r
  · exact h.elim⟩
/-! ### statements -/
def WM.up (a : WE K E) : WM K E := ⟨a.t, a.m, fun χ Γ φ => a.w χ Γ fun d => φ d Γ, fun {p χ Γ φ} h => ((a.ok h).toM).imp fun d G ⟨e, f⟩ => by rw [e]; exact f⟩
def WM.popAt (i : Nat) (a : WE K E) : WM K E := ⟨tBM K "list" rPopAt (tVar i) (tCons a.t tNil), a.m, fun χ Γ φ => match Γ[i]? with | some (.own ds) => a.w χ Γ fun d => ∃ (k : Nat) (x : D), d = .int (k : Int) ∧ ds[k]? = some x ∧ k < 1000000 ∧ φ x (Γ.set i (.own (ds.eraseIdx k))) | _ => False, fun {p χ Γ φ} h => by
  split at h
  · rename_i ds e
    exact evm_popAt (((a.ok h).toM).imp fun d G ⟨eG, k, x, h1, h2, h3, h4⟩ => ⟨ds, k, x, by rw [eG]; exact e, h1, h2, h3, by rw [eG]; exact h4⟩) ⟨ds, e⟩
  · exact h.elim⟩
def WS.next : WS K E := ⟨tNext, 0, fun χ Γ W => W.N Γ, fun {p χ Γ W} h => wp_next h⟩
def WS.brk : WS K E := ⟨tBreak, 0, fun χ Γ W => W.B Γ, fun {p χ Γ W} h => wp_break h⟩
def WS.cont : WS K E := ⟨tCont, 0, fun χ Γ W => W.C Γ, fun {p χ Γ W} h => wp_cont h⟩
def WS.seq (a b : WS K E) : WS K E := ⟨tSeq a.t b.t, a.m + b.m, fun χ Γ W => a.w χ Γ { N := fun G => b.w χ G W, R := W.R, B := W.B, C := W.C }, fun {p χ Γ W} h => wp_seqW (a.ok h) fun _ f => b.ok f⟩
def WS.ret (a : WM K E) : WS K E := ⟨tRet a.t, a.m, fun χ Γ W => a.w χ Γ fun d _ => W.R d, fun {p χ Γ W} h => wp_ret (a.ok h)⟩
def WS.retN : WS K E := ⟨tRetN, 0, fun χ Γ W => W.R .non, fun {p χ Γ W} h => wp_retN h⟩
def WS.asg (j : Nat) (a : WM K E) : WS K E := ⟨tAsg a.t (gName j), a.m, fun χ Γ W => a.w χ Γ fun d G => W.N (G.set j (.dat d)), fun {p χ Γ W} h => wp_asg (a.ok h)⟩
def WS.asgT (g : WG K) (a : WE K E) : WS K E := ⟨tAsg a.t g.t, a.m, fun χ Γ W => a.w χ Γ fun d => ∃ l, g.ps d = some l ∧ W.N (setD Γ l), fun {p χ Γ W} h => wp_asgT (a.ok h) fun d ⟨l, e, f⟩ => ⟨l, g.ok e, f⟩⟩
def WS.asgOwn (j : Nat) (a : WA K E) : WS K E := ⟨tAsg (tLst a.t) (gName j), a.m, fun χ Γ W => a.w χ Γ fun ds => ds.length ≤ 1000 ∧ W.N (Γ.set j (.own ds)), fun {p χ Γ W} h => wp_asgOwn (a.ok h) (fun ds f => f.1) fun ds f => f.2⟩
def WS.drop (a : WM K E) : WS K E := ⟨tDrop a.t, a.m, fun χ Γ W => a.w χ Γ fun _ G => W.N G, fun {p χ Γ W} h => wp_drop (a.ok h)⟩
def WS.ifS (t : WT K E) (a b : WS K E) : WS K E := ⟨tIfS t.t a.t b.t, t.m + (a.m + b.m), fun χ Γ W => t.w χ Γ fun k => (k = true → a.w χ Γ W) ∧ (k = false → b.w χ Γ W), fun {p χ Γ W} h => wp_if (t.ok h) (fun f => (a.ok (f.1 rfl)).more (by omega)) fun f => (b.ok (f.2 rfl)).more (by omega)⟩
def WS.frz (i : Nat) (a : WS K E) : WS K E := ⟨a.t, a.m, fun χ Γ W => match Γ[i]? with | some (.own ds) => a.w χ (Γ.set i (.dat (.lst ds))) W | _ => a.w χ Γ W, fun {p χ Γ W} h => by
  split at h
  · rename_i ds e; exact wp_freeze i e (a.ok h)
  · exact a.ok h⟩
def WS.append (i : Nat) (a : WM K E) : WS K E := ⟨tDrop (tBM K "list" rAppend (tVar i) (tCons a.t tNil)), a.m, fun χ Γ W => (∃ ds, Γ[i]? = some (.own ds)) ∧ a.w χ Γ fun d G => match G[i]? with | some (.own ds) => ds.length < 1000000 ∧ W.N (G.set i (.own (ds ++ [d]))) | _ => False, fun {p χ Γ W} h => wp_append ((a.ok h.2).imp fun d G f => by
  split at f
  · rename_i ds e; exact ⟨ds, e, f.1, f.2⟩
  · exact f.elim) h.1⟩
def WS.forS (wi : WI K E) (g : WG K) (tb : WS K E) (L : Nat) : WS K E := ⟨tFor wi.t g.t tb.t, wi.m + L * tb.m, fun χ Γ W => wi.w χ Γ fun ds => ForP g tb χ Γ L W ds, fun {p χ Γ W} h => wp_forW wi g tb h⟩
def WS.par (i j : Nat) (a b : WE K E) : WS K E := ⟨tPar i j (tCons a.t (tCons b.t tNil)), a.m + b.m, fun χ Γ W => a.w χ Γ fun x => b.w χ Γ fun y => W.N ((Γ.set i (.dat x)).set j (.dat y)), fun {p χ Γ W} h Hb Hd0 H0 σ Hd H n o l x En k1 k2 k3 k4 => by
  have q := (WA.cons a (WA.cons b WA.nil)).ok (p := p) (χ := χ) (Γ := Γ) (φ := fun ds => ∃ a b, ds = [a, b] ∧ W.N ((Γ.set i (.dat a)).set j (.dat b)))
    (show a.w χ Γ fun x => b.w χ Γ fun y => ∃ a b, [x, y] = [a, b] ∧ W.N ((Γ.set i (.dat a)).set j (.dat b)) by
      have e : (fun x => b.w χ Γ fun y => ∃ a b, [x, y] = [a, b] ∧ W.N ((Γ.set i (.dat a)).set j (.dat b))) = fun x => b.w χ Γ fun y => W.N ((Γ.set i (.dat x)).set j (.dat y)) := by
        funext x
        congr 1
        funext y
        refine propext ⟨fun ⟨a, b, e, f⟩ => by cases e; exact f, fun f => ⟨x, y, rfl, f⟩⟩
      rw [e]; exact h)
  refine q σ Hd H n o.sr o.g.s o.pe l (x.grow o.g) (fun vs H1 => ∃ v w, vs = [v, w] ∧ En.nx ((σ.set i (some v)).set j (some w)) H1) fun vs ds Hd' H' g pe f r => ?_
  obtain ⟨a, b, e, w⟩ := f
  subst e
  cases r with | cons ra r => cases r with | cons rb r => cases r; exact ⟨_, _, rfl, k1 _ _ _ _ w (((o.grow g pe).set ra).set rb)⟩⟩
/-- left, found = list(e), [] : both one's own -/
def WS.parLE (i j : Nat) (a : WE K E) : WS K E := ⟨tPar i j (tCons (WE.cb (E := E) ON.list (WA.cons a WA.nil)).t (tCons (tLst tNil) tNil)), a.m, fun χ Γ W => a.w χ Γ fun x => ∃ ds, x.its = some ds ∧ W.N ((Γ.set i (.own ds)).set j (.own [])), fun {p χ Γ W} h Hb Hd0 H0 σ Hd H n o l x En k1 k2 k3 k4 => by
  refine a.ok h σ Hd H n o.sr o.g.s o.pe l (x.grow o.g) _ fun v d Hd1 H1 g1 pe1 ⟨ds, e, f⟩ r => ?_
  have o1 := o.grow g1 pe1
  have fin : ∀ (ys : List V) (l : Addr), Reps K Hd1 ys ds → H1 l = none → ∀ b, upd H1 l (.lst ys) b = none → En.nx ((σ.set i (some (.ref l))).set j (some (.ref b))) (upd (upd H1 l (.lst ys)) b (.lst [])) := fun ys l r hl b hb =>
    k1 _ _ _ _ f ((o1.newOwn (i := i) hl r).newOwn (i := j) hb .nil)
  cases r with
  | tup h1 r => cases e; exact ⟨_, _, rfl, .inr (same_sqt o1.g.s h1), fun l hl => ⟨by simp, fun b hb => ⟨_, _, rfl, fin _ l r hl b hb⟩⟩⟩
  | lst h1 r => cases e; exact ⟨_, _, rfl, .inl (SqL.of (o1.g.s _ _ h1)), fun l hl => ⟨by simp, fun b hb => ⟨_, _, rfl, fin _ l r hl b hb⟩⟩⟩
  | _ => cases e⟩
end
/-! ### defs by their terms -/
section
variable {P : Program} {w : World} {K : PySem.W.Frag} {mg : Str → Option Value} {base : Heap} {x : Str} {k : Nat} {ps N : List Str} {dvs : List V} {st : Stmt} {pre : List D → Prop} {post : List D → D → Prop} {m : Nat}
theorem cal_W (T : WS K L2.E0) (Df : Def K mg x st ps dvs) (S : FnScope N ps (defScope st)) (hl : ∀ ds, pre ds → ds.length = ps.length)
    (hb : ∀ (f : Addr) (cdv : Value) (A : Around) (outer : List Env) (s : Shared) (H : Hp) (E : XK), Room k (A.deeper (envOfC x (defScope st) s.heap.objs.size f cdv)) → NoG (A.deeper (envOfC x (defScope st) s.heap.objs.size f cdv)) →
      ∃ t, PSs (cxOf CX0 P w K mg base N x (defScope st) f cdv A outer s H E).nox (defBody st) t ∧ t = T.t) (hm : T.m = 0) (hw : ∀ ds, pre ds → T.w noX (G0 N ds) (retW (post ds))) : Cal P w K mg base x (k + 1) ps dvs (SpP K pre post) :=
  cal_P Df S hl fun f cdv A outer s H E hr ng ds hp => ⟨T.t, (hb f cdv A outer s H E hr ng).elim fun t h => h.2 ▸ h.1, fun p => (T.ok (hw ds hp)).more (by omega)⟩
theorem cal_WG (T : WS K L2.E0) (Df : Def K mg x st ps dvs) (S : FnScope N ps (defScope st)) (hl : ∀ ds, pre ds → ds.length + 1 = ps.length)
    (hb : ∀ (f : Addr) (cdv : Value) (A : Around) (outer : List Env) (s : Shared) (H : Hp) (E : XK), Room k (A.deeper (envOfC x (defScope st) s.heap.objs.size f cdv)) → NoG (A.deeper (envOfC x (defScope st) s.heap.objs.size f cdv)) →
      ∃ t, PSs (cxOf CX0 P w K mg base N x (defScope st) f cdv A outer s H E).nox (defBody st) t ∧ t = T.t) (hm : T.m ≤ m) (hw : ∀ ds, pre ds → T.w noX (G1 N ds) (retW (post ds))) : Cal P w K mg base x (k + 1) ps dvs (SpG K m pre post) :=
  cal_G Df S hl fun f cdv A outer s H E hr ng ds hp => ⟨T.t, (hb f cdv A outer s H E hr ng).elim fun t h => h.2 ▸ h.1, fun a cc => (T.ok (hw ds hp)).more hm⟩
end
end DL
set_option maxRecDepth 100000
set_option maxHeartbeats 4000000
/-! DLs: the rows by which a term's promise is opened. -/
namespace DL
open PySem L2 PyProof.Rows
section
variable {K : PySem.W.Frag} {E : XK} {χ : Xq} {Γ : List Sk} {φ : D → Prop} {ψ : Bool → Prop} {ξ : List D → Prop} {W : Wh} {Φ : D → List Sk → Prop} {a b d : WE K E} {t u : WT K E} {x y : D}
/-- the data at a slot -/
def DatAt (Γ : List Sk) (i : Nat) (φ : D → Prop) : Prop := match Γ[i]? with | some (.dat d) => φ d | _ => False
def OwnAt (Γ : List Sk) (i : Nat) (φ : List D → Prop) : Prop := match Γ[i]? with | some (.own d) => φ d | _ => False
@[simp] theorem datAt_0 {Γ : List Sk} : DatAt (.dat x :: Γ) 0 φ = φ x := rfl
@[simp] theorem datAt_s {s : Sk} {Γ : List Sk} {i : Nat} : DatAt (s :: Γ) (i + 1) φ = DatAt Γ i φ := rfl
@[simp] theorem ownAt_0 {Γ : List Sk} {ds : List D} : OwnAt (.own ds :: Γ) 0 ξ = ξ ds := rfl
@[simp] theorem ownAt_s {s : Sk} {Γ : List Sk} {i : Nat} : OwnAt (s :: Γ) (i + 1) ξ = OwnAt Γ i ξ := rfl
def PenIs (Γ : List Sk) (i : Nat) : Prop := Γ[i]? = some .pen
@[simp] theorem penIs_0 {Γ : List Sk} : PenIs (.pen :: Γ) 0 = True := by simp [PenIs]
@[simp] theorem penIs_s {s : Sk} {Γ : List Sk} {i : Nat} : PenIs (s :: Γ) (i + 1) = PenIs Γ i := by simp [PenIs]
theorem w_var {i : Nat} : (WE.var (K := K) (E := E) i).w χ Γ φ = DatAt Γ i φ := rfl
theorem w_int {i : Int} : (WE.int (K := K) (E := E) i).w χ Γ φ = φ (.int i) := rfl
theorem w_bl {i : Bool} : (WE.bl (K := K) (E := E) i).w χ Γ φ = φ (.bl i) := rfl
theorem w_str {i : Str} : (WE.str (K := K) (E := E) i).w χ Γ φ = φ (.str i) := rfl
theorem w_non : (WE.non (K := K) (E := E)).w χ Γ φ = φ .non := rfl
theorem w_ktup {A : Addr} {xs : List V} {ds : List D} {h : ∀ H, SqT K H A xs} {r : ∀ H, Reps K H xs ds} : (WE.ktup (E := E) ds h r).w χ Γ φ = φ (.tup ds) := rfl
theorem w_op {o : O2 K} : (WE.op o a b).w χ Γ φ = a.w χ Γ fun x => b.w χ Γ fun y => o.w x y φ := rfl
theorem w_neg : (WE.neg a).w χ Γ φ = a.w χ Γ fun d => ∃ i, d = .int i ∧ φ (.int (-i)) := rfl
theorem w_chain {f g : Int → Int → Bool} : (WE.chain f g a b d).w χ Γ φ = a.w χ Γ fun x => b.w χ Γ fun y => ∃ i j, x = .int i ∧ y = .int j ∧ (f i j = true → d.w χ Γ fun z => ∃ k, z = .int k ∧ φ (.bl (g j k))) ∧ (f i j = false → φ (.bl false)) := rfl
theorem w_nil : (WA.nil (K := K) (E := E)).w χ Γ ξ = ξ [] := rfl
theorem w_cons {r : WA K E} : (WA.cons a r).w χ Γ ξ = a.w χ Γ fun d => r.w χ Γ fun ds => ξ (d :: ds) := rfl
theorem w_tup {r : WA K E} : (WE.tup r).w χ Γ φ = r.w χ Γ fun ds => ds.length ≤ 1000 ∧ φ (.tup ds) := rfl
theorem w_lst {r : WA K E} : (WE.lst r).w χ Γ φ = r.w χ Γ fun ds => ds.length ≤ 1000 ∧ φ (.lst ds) := rfl
theorem w_tst : (WT.tst a).w χ Γ ψ = a.w χ Γ fun d => ∃ b, d = .bl b ∧ ψ b := rfl
theorem w_tb : (WT.b a).w χ Γ ψ = a.w χ Γ fun d => ∃ b, d = .bl b ∧ ψ b := rfl
theorem w_not : (WT.not t).w χ Γ ψ = t.w χ Γ fun b => ψ (!b) := rfl
theorem w_yes : (WT.yes (K := K) (E := E)).w χ Γ ψ = ψ true := rfl
theorem w_and : (WT.and t u).w χ Γ ψ = t.w χ Γ fun k => (k = true → u.w χ Γ ψ) ∧ (k = false → ψ false) := rfl
theorem w_or : (WT.or t u).w χ Γ ψ = t.w χ Γ fun k => (k = false → u.w χ Γ ψ) ∧ (k = true → ψ true) := rfl
theorem w_andV : (WE.andV a b).w χ Γ φ = a.w χ Γ fun d => ∃ k, d = .bl k ∧ (k = true → b.w χ Γ φ) ∧ (k = false → φ (.bl false)) := rfl
theorem w_orV : (WE.orV a b).w χ Γ φ = a.w χ Γ fun d => ∃ k, d = .bl k ∧ (k = false → b.w χ Γ φ) ∧ (k = true → φ (.bl true)) := rfl
theorem w_notV : (WE.notV a).w χ Γ φ = a.w χ Γ fun d => ∃ k, d = .bl k ∧ φ (.bl (!k)) := rfl
theorem w_ite : (WE.ite t a b).w χ Γ φ = t.w χ Γ fun k => (k = true → a.w χ Γ φ) ∧ (k = false → b.w χ Γ φ) := rfl
theorem w_none {ω : Option Int → Prop} : (WO.none (K := K) (E := E)).w χ Γ ω = ω none := rfl
theorem w_some {ω : Option Int → Prop} : (WO.some a).w χ Γ ω = a.w χ Γ fun d => ∃ i, d = .int i ∧ ω (some i) := rfl
theorem w_sl {lo hi : WO K E} : (WE.sl a lo hi).w χ Γ φ = a.w χ Γ fun d => lo.w χ Γ fun l => hi.w χ Γ fun h => d.seq = true ∧ φ (d.cut l h) := rfl
theorem w_cb {o : ON K} {r : WA K E} : (WE.cb o r).w χ Γ φ = r.w χ Γ fun ds => o.w ds φ := rfl
theorem w_isi {T : String} {h : T ∈ isiTys} : (WE.isi T a h).w χ Γ φ = a.w χ Γ fun d => d.builtin = true ∧ φ (.bl (isiB d T)) := rfl
theorem w_isi2 {T U : String} {h : T ∈ isiTys} {h2 : U ∈ isiTys} : (WE.isi2 T U a h h2).w χ Γ φ = a.w χ Γ fun d => d.builtin = true ∧ φ (.bl (isiB d T || isiB d U)) := rfl
theorem w_call {pre : List D → Prop} {post : List D → D → Prop} {r : WA K E} : (WE.call pre post r).w χ Γ φ = r.w χ Γ fun ds => pre ds ∧ ∀ d, post ds d → φ d := rfl
theorem w_callD {dvs : List V} {des : List D} {pre : List D → Prop} {post : List D → D → Prop} {hd : ∀ H, Reps K H dvs des} {r : WA K E} : (WE.callD (des := des) pre post hd r).w χ Γ φ = r.w χ Γ fun ds => pre (ds ++ des) ∧ ∀ d, post (ds ++ des) d → φ d := rfl
theorem w_callX {pre : List D → Prop} {post : List D → D → Prop} {χ' : List D → Xq} {r : WA K E} : (WE.callX pre post χ' r).w χ Γ φ = r.w χ Γ fun ds => pre ds ∧ (∀ d, post ds d → φ d) ∧ ∀ C fs, χ' ds C fs → χ C fs := rfl
theorem w_callG {k : Nat} {pre : List D → Prop} {post : List D → D → Prop} {i : Nat} {r : WA K E} : (WE.callG k pre post i r).w χ Γ φ = (PenIs Γ i ∧ r.w χ Γ fun ds => pre ds ∧ ∀ d, post ds d → φ d) := rfl
theorem w_split : (WE.split a b).w χ Γ φ = a.w χ Γ fun x => ∃ z, x = .str z ∧ b.w χ Γ fun y => ∃ u, y = .str u ∧ (u.length == 0) = false ∧ z.length ≤ 1000000 ∧ φ (.lst ((Txt.split z u).map .str)) := rfl
def GetD (x y : D) (φ : D → Prop) : Prop := match x with | .dct ks ds => ∃ j d, y = keyD j ∧ valD ks ds j = some d ∧ φ d | _ => False
theorem w_dget : (WE.dget a b).w χ Γ φ = a.w χ Γ fun x => b.w χ Γ fun y => GetD x y φ := rfl
theorem getD_str {ks : List Key} {ds : List D} {s : Str} {d : D} (h : valD ks ds (.inr s) = some d) (f : φ d) : GetD (.dct ks ds) (.str s) φ := ⟨.inr s, d, rfl, h, f⟩
theorem w_dnil : (WD.nil (K := K) (E := E)).w χ Γ ξ = ξ [] := rfl
theorem w_dcons {k : Str} {r : WD K E} : (WD.cons k a r).w χ Γ ξ = a.w χ Γ fun d => r.w χ Γ fun ds => ξ (d :: ds) := rfl
theorem ks_nil : (WD.nil (K := K) (E := E)).ks = [] := rfl
theorem ks_cons {k : Str} {r : WD K E} : (WD.cons k a r).ks = .inr k :: r.ks := rfl
theorem w_disp {r : WD K E} {hn : r.ks.Nodup} {hl : r.ks.length ≤ 15} : (WE.disp r hn hl).w χ Γ φ = r.w χ Γ fun ds => φ (.dct r.ks ds) := rfl
theorem w_seqI : (WI.seq a).w χ Γ ξ = a.w χ Γ fun d => ∃ ds, itemsOf d = some ds ∧ ξ ds := rfl
theorem w_rng1 {r : WA K E} : (WI.rng1 r).w χ Γ ξ = r.w χ Γ fun ds => ∃ n, ds = [.int n] ∧ (-(2 ^ 62) ≤ n ∧ n < 2 ^ 62) ∧ ξ (rngD 0 n.toNat) := rfl
theorem w_rng2 {r : WA K E} : (WI.rng2 r).w χ Γ ξ = r.w χ Γ fun ds => ∃ i n, ds = [.int i, .int n] ∧ (-(2 ^ 62) ≤ i ∧ i < 2 ^ 62 ∧ -(2 ^ 62) ≤ n ∧ n < 2 ^ 62) ∧ ξ (rngD i (n - i).toNat) := rfl
theorem w_enum {r : WA K E} : (WI.enum r).w χ Γ ξ = r.w χ Γ fun as => ∃ ds, as = [.lst ds] ∧ ξ (enumD ds) := rfl
theorem w_zip {r : WA K E} : (WI.zip r).w χ Γ ξ = r.w χ Γ fun as => ∃ ds es, (as = [.lst ds, .lst es] ∨ as = [.tup ds, .tup es]) ∧ ξ (zipD ds es) := rfl
theorem w_lc {wi : WI K E} {g : WG K} {L : Nat} {hz : L < 1000000} : (WE.lc wi g t a L hz).w χ Γ φ = wi.w χ Γ fun ds => LcP g t a χ Γ L ds φ := rfl
theorem w_borrow {i : Nat} : (WE.borrow i a).w χ Γ φ = OwnAt Γ i fun ds => a.w noX (Γ.set i (.dat (.lst ds))) fun d => scalar d = true ∧ φ d := rfl
theorem w_up : (WM.up a).w χ Γ Φ = a.w χ Γ fun d => Φ d Γ := rfl
theorem w_popAt {i : Nat} : (WM.popAt i a).w χ Γ Φ = OwnAt Γ i fun ds => a.w χ Γ fun d => ∃ (k : Nat) (x : D), d = .int (k : Int) ∧ ds[k]? = some x ∧ k < 1000000 ∧ Φ x (Γ.set i (.own (ds.eraseIdx k))) := rfl
theorem w_next : (WS.next (K := K) (E := E)).w χ Γ W = W.N Γ := rfl
theorem w_brk : (WS.brk (K := K) (E := E)).w χ Γ W = W.B Γ := rfl
theorem w_cont : (WS.cont (K := K) (E := E)).w χ Γ W = W.C Γ := rfl
theorem w_seq {p q : WS K E} : (WS.seq p q).w χ Γ W = p.w χ Γ { N := fun G => q.w χ G W, R := W.R, B := W.B, C := W.C } := rfl
theorem w_ret {e : WM K E} : (WS.ret e).w χ Γ W = e.w χ Γ fun d _ => W.R d := rfl
theorem w_retN : (WS.retN (K := K) (E := E)).w χ Γ W = W.R .non := rfl
theorem w_asg {j : Nat} {e : WM K E} : (WS.asg j e).w χ Γ W = e.w χ Γ fun d G => W.N (G.set j (.dat d)) := rfl
theorem w_asgT {g : WG K} : (WS.asgT g a).w χ Γ W = a.w χ Γ fun d => ∃ l, g.ps d = some l ∧ W.N (setD Γ l) := rfl
theorem w_asgOwn {j : Nat} {r : WA K E} : (WS.asgOwn j r).w χ Γ W = r.w χ Γ fun ds => ds.length ≤ 1000 ∧ W.N (Γ.set j (.own ds)) := rfl
theorem w_drop {e : WM K E} : (WS.drop e).w χ Γ W = e.w χ Γ fun _ G => W.N G := rfl
theorem w_ifS {p q : WS K E} : (WS.ifS t p q).w χ Γ W = t.w χ Γ fun k => (k = true → p.w χ Γ W) ∧ (k = false → q.w χ Γ W) := rfl
theorem w_frzO {i : Nat} {p : WS K E} {ds : List D} (h : OwnAt Γ i (· = ds)) : (WS.frz i p).w χ Γ W = p.w χ (Γ.set i (.dat (.lst ds))) W := by
  unfold OwnAt at h
  split at h
  · rename_i e
    subst h
    show (match Γ[i]? with | some (.own ds) => p.w χ (Γ.set i (.dat (.lst ds))) W | _ => p.w χ Γ W) = _
    rw [e]
  · exact h.elim
def FrzAt (Γ : List Sk) (i : Nat) (k : List Sk → Prop) : Prop := match Γ[i]? with | some (.own ds) => k (Γ.set i (.dat (.lst ds))) | _ => k Γ
theorem w_frz {i : Nat} {p : WS K E} : (WS.frz i p).w χ Γ W = FrzAt Γ i fun G => p.w χ G W := rfl
theorem frzAt_0 {k : List Sk → Prop} {ds : List D} : FrzAt (.own ds :: Γ) 0 k = k (.dat (.lst ds) :: Γ) := rfl
theorem frzAt_d {k : List Sk → Prop} {d : D} : FrzAt (.dat d :: Γ) 0 k = k (.dat d :: Γ) := rfl
theorem frzAt_u {k : List Sk → Prop} : FrzAt (.un :: Γ) 0 k = k (.un :: Γ) := rfl
theorem frzAt_s {k : List Sk → Prop} {s : Sk} {i : Nat} : FrzAt (s :: Γ) (i + 1) k = FrzAt Γ i fun G => k (s :: G) := by
  unfold FrzAt
  rw [List.getElem?_cons_succ]
  cases h : Γ[i]? with
  | none => rfl
  | some q => cases q <;> rfl
theorem w_append {i : Nat} {e : WM K E} : (WS.append i e).w χ Γ W = ((∃ ds, Γ[i]? = some (.own ds)) ∧ e.w χ Γ fun d G => OwnAt G i fun ds => ds.length < 1000000 ∧ W.N (G.set i (.own (ds ++ [d])))) := rfl
theorem w_forS {wi : WI K E} {g : WG K} {p : WS K E} {L : Nat} : (WS.forS wi g p L).w χ Γ W = wi.w χ Γ fun ds => ForP g p χ Γ L W ds := rfl
theorem w_par {i j : Nat} : (WS.par i j a b).w χ Γ W = a.w χ Γ fun x => b.w χ Γ fun y => W.N ((Γ.set i (.dat x)).set j (.dat y)) := rfl
theorem w_parLE {i j : Nat} : (WS.parLE i j a).w χ Γ W = a.w χ Γ fun x => ∃ ds, x.its = some ds ∧ W.N ((Γ.set i (.own ds)).set j (.own [])) := rfl
/-! operations -/
section
variable {i j : Int} {s z : Str} {ds es : List D} {g : Int → Int → Int} {f : Int → Int → Bool} {C : Int → Int → Prop}
theorem q_int : (O2.int (K := K) g).w (.int i) (.int j) φ = φ (.int (g i j)) := rfl
theorem q_cmp : (O2.cmp (K := K) f).w (.int i) (.int j) φ = φ (.bl (f i j)) := rfl
theorem q_intC : (O2.intC (K := K) C g).w (.int i) (.int j) φ = (C i j ∧ φ (.int (g i j))) := rfl
theorem q_addI : (O2.add (K := K)).w (.int i) (.int j) φ = φ (.int (i + j)) := rfl
theorem q_addS : (O2.add (K := K)).w (.str s) (.str z) φ = (s.length + z.length ≤ 1000000 ∧ φ (.str (s ++ z))) := rfl
theorem q_addT : (O2.add (K := K)).w (.tup ds) (.tup es) φ = (ds.length + es.length ≤ 1000000 ∧ φ (.tup (ds ++ es))) := rfl
theorem q_addL : (O2.add (K := K)).w (.lst ds) (.lst es) φ = (ds.length + es.length ≤ 1000000 ∧ φ (.lst (ds ++ es))) := rfl
theorem q_mulI : (O2.mul (K := K)).w (.int i) (.int j) φ = (CMul i j ∧ φ (.int (i * j))) := rfl
theorem q_mulS : (O2.mul (K := K)).w (.str s) (.int j) φ = ((0 ≤ j ∧ j ≤ 1000 ∧ s.length ≤ 1000) ∧ φ (.str (Txt.mul s j))) := rfl
theorem q_mulL : (O2.mul (K := K)).w (.lst ds) (.int j) φ = ((0 ≤ j ∧ j ≤ 1000 ∧ ds.length ≤ 1000) ∧ φ (.lst (List.replicate j.toNat ds).flatten)) := rfl
theorem q_eq : (O2.eq (K := K)).w x y φ = (x.ok = true ∧ y.ok = true ∧ φ (.bl (x.eqv y))) := rfl
theorem q_ne : (O2.ne (K := K)).w x y φ = (x.ok = true ∧ y.ok = true ∧ φ (.bl (!x.eqv y))) := rfl
theorem q_isN : (O2.isU (K := K)).w x .non φ = φ (.bl x.isNon) := rfl
theorem q_isB {k : Bool} : (O2.isU (K := K)).w x (.bl k) φ = φ (.bl (x.isBl k)) := rfl
theorem q_notN : (O2.notU (K := K)).w x .non φ = φ (.bl (!x.isNon)) := rfl
theorem q_inT : (O2.inn (K := K)).w x (.tup ds) φ = (x.flat = true ∧ ds.all D.flat = true ∧ φ (.bl (inD x ds))) := rfl
theorem q_inL : (O2.inn (K := K)).w x (.lst ds) φ = (x.flat = true ∧ ds.all D.flat = true ∧ φ (.bl (inD x ds))) := rfl
theorem q_inS : (O2.inn (K := K)).w x (.str z) φ = (∃ k, x.sign = some k ∧ φ (.bl (decide (k ∈ z.cps.toList)))) := rfl
theorem q_ninT : (O2.nin (K := K)).w x (.tup ds) φ = (x.flat = true ∧ ds.all D.flat = true ∧ φ (.bl (!inD x ds))) := rfl
theorem q_ninL : (O2.nin (K := K)).w x (.lst ds) φ = (x.flat = true ∧ ds.all D.flat = true ∧ φ (.bl (!inD x ds))) := rfl
theorem q_ninS : (O2.nin (K := K)).w x (.str z) φ = (∃ k, x.sign = some k ∧ φ (.bl (!decide (k ∈ z.cps.toList)))) := rfl
theorem q_ixL : (O2.ix (K := K)).w (.lst ds) (.int i) φ = (∃ d, atI ds i = some d ∧ φ d) := rfl
theorem q_ixT : (O2.ix (K := K)).w (.tup ds) (.int i) φ = (∃ d, atI ds i = some d ∧ φ d) := rfl
theorem q_ixS : (O2.ix (K := K)).w (.str z) (.int i) φ = (∃ k, atI z.cps.toList i = some k ∧ z.length ≤ 1000000 ∧ φ (.str ⟨#[k]⟩)) := rfl
theorem n_len : (ON.len (K := K)).w [x] φ = (∃ k : Nat, x.len = some k ∧ φ (.int (k : Int))) := rfl
theorem n_list : (ON.list (K := K)).w [x] φ = (∃ ds, x.its = some ds ∧ φ (.lst ds)) := rfl
theorem n_tuple : (ON.tuple (K := K)).w [x] φ = (∃ ds, x.its = some ds ∧ φ (.tup ds)) := rfl
theorem n_all : (ON.all (K := K)).w [.lst ds] φ = (ds.all D.isB = true ∧ φ (.bl (ds.all D.tt))) := rfl
theorem n_any : (ON.any (K := K)).w [.lst ds] φ = (ds.all D.isB = true ∧ φ (.bl (ds.any D.tt))) := rfl
theorem n_sum : (ON.sum (K := K)).w [.lst ds] φ = (ds.all D.isI = true ∧ φ (.int (ds.map D.toI).sum)) := rfl
theorem n_sortedS : (ON.sortedS (K := K)).w [.lst ds] φ = (ds.all D.isS = true ∧ ds.length < 64 ∧ ∀ ys : List Str, ys.Perm (ds.map D.toS) → PyProof.Rows.sortedS ys = true → φ (.lst (ys.map D.str))) := rfl
theorem n_min2 : (ON.min2 (K := K)).w [.int i, .int j] φ = φ (.int (if j < i then j else i)) := rfl
theorem n_max2 : (ON.max2 (K := K)).w [.int i, .int j] φ = φ (.int (if j > i then j else i)) := rfl
theorem n_int1 : (ON.int1 (K := K)).w [.int i] φ = φ (.int i) := rfl
theorem n_strI : (ON.strI (K := K)).w [.int i] φ = (i.natAbs.log2 < 1920 ∧ φ (.str (toString i))) := rfl
theorem n_repr : (ON.repr (K := K)).w [x] φ = (GD 64 16000000 x ∧ φ (.str x.py.shown)) := rfl
end
theorem g_name {i : Nat} : (WG.name (K := K) i).ps x = some [(i, x)] := rfl
/-! comprehensions, loops -/
theorem LcP.map {g : WG K} {L : Nat} {ds : List D} (f : D → D) (hl : ds.length ≤ L) (h : ∀ d ∈ ds, ∃ ps, g.ps d = some ps ∧ a.w χ (setD (wipeG Γ g.is) ps) (· = f d)) (k : φ (.lst (ds.map f))) : LcP g WT.yes a χ Γ L ds φ :=
  ⟨hl, fun d k => k = true, fun d e => e = f d, fun d hd => by obtain ⟨ps, h1, h2⟩ := h d hd; exact ⟨ps, h1, rfl, fun _ => h2⟩, fun es c => by
    rw [c.exact (b := fun _ => true) (f := f) (fun _ _ z => z) fun _ _ z => z, List.filter_eq_self.mpr fun _ _ => rfl]; exact k⟩
theorem LcP.filt {g : WG K} {L : Nat} {ds : List D} (b : D → Bool) (f : D → D) (hl : ds.length ≤ L) (h : ∀ d ∈ ds, ∃ ps, g.ps d = some ps ∧ t.w χ (setD (wipeG Γ g.is) ps) (· = b d) ∧ (b d = true → a.w χ (setD (wipeG Γ g.is) ps) (· = f d))) (k : φ (.lst ((ds.filter b).map f))) : LcP g t a χ Γ L ds φ :=
  ⟨hl, fun d k => k = b d, fun d e => e = f d, fun d hd => by
    obtain ⟨ps, h1, h2, h3⟩ := h d hd
    exact ⟨ps, h1, h2, fun z => h3 z.symm⟩, fun es c => by
    rw [c.exact (b := b) (f := f) (fun _ _ z => z) fun _ _ z => z]; exact k⟩
/-- each one is of a kind -/
theorem LcP.each {g : WG K} {L : Nat} {ds : List D} (F : D → Prop) (hl : ds.length ≤ L) (h : ∀ d ∈ ds, ∃ ps, g.ps d = some ps ∧ a.w χ (setD (wipeG Γ g.is) ps) F) (k : ∀ es : List D, es.length = ds.length → (∀ e ∈ es, F e) → φ (.lst es)) : LcP g WT.yes a χ Γ L ds φ :=
  ⟨hl, fun d k => k = true, fun d e => F e, fun d hd => by obtain ⟨ps, h1, h2⟩ := h d hd; exact ⟨ps, h1, rfl, fun _ => h2⟩, fun es c => k es (c.len_eq fun _ z => by cases z) (c.all fun _ _ z => z)⟩
theorem ForP.of {g : WG K} {p : WS K E} {L : Nat} {ds : List D} (Iv : Nat → List Sk → Prop) (hl : ds.length ≤ L) (h0 : Iv 0 Γ) (hs : ∀ i d Γ', ds[i]? = some d → Iv i Γ' → ∃ ps, g.ps d = some ps ∧ p.w χ (setD Γ' ps) { N := Iv (i + 1), C := Iv (i + 1), B := W.N, R := W.R }) (hd : ∀ Γ', Iv ds.length Γ' → W.N Γ') : ForP g p χ Γ L W ds := ⟨hl, Iv, h0, hs, hd⟩
end
theorem un66 {k : Nat} {A : Around} (r : Room k A) : A.units + 66 < cLine := by have := r.un; omega
/-! data that is known -/
def D.isT : D → Bool
  | .tup _ => true | _ => false
def D.isL : D → Bool
  | .lst _ => true | _ => false
theorem isi_str {d : D} : isiB d "str" = d.isS := by cases d <;> rfl
theorem isi_int {d : D} : isiB d "int" = (d.isI || d.isB) := by cases d <;> rfl
theorem isi_bool {d : D} : isiB d "bool" = d.isB := by cases d <;> rfl
theorem isi_tuple {d : D} : isiB d "tuple" = d.isT := by cases d <;> rfl
theorem isi_list {d : D} : isiB d "list" = d.isL := by cases d <;> rfl
theorem ok_int {s : Int} : (D.int s).ok = true := rfl
theorem ok_bl {s : Bool} : (D.bl s).ok = true := rfl
theorem ok_non : D.non.ok = true := rfl
theorem eqv_str {s z : Str} : (D.str s).eqv (.str z) = decide (s = z) := by
  show PyData.eqv (.str s) (.str z) = _
  unfold PyData.eqv; rfl
theorem eqv_int {s z : Int} : (D.int s).eqv (.int z) = decide (s = z) := by
  show PyData.eqv (.int s) (.int z) = _
  unfold PyData.eqv; rfl
theorem setD_nil {Γ : List Sk} : setD Γ [] = Γ := rfl
theorem setD_cons {Γ : List Sk} {i : Nat} {d : D} {l : List (Nat × D)} : setD Γ ((i, d) :: l) = setD (Γ.set i (.dat d)) l := rfl
@[simp] theorem isS_non : D.non.isS = false := rfl
@[simp] theorem isS_bl {b : Bool} : (D.bl b).isS = false := rfl
@[simp] theorem isS_int {i : Int} : (D.int i).isS = false := rfl
@[simp] theorem isS_str {s : Str} : (D.str s).isS = true := rfl
@[simp] theorem isS_lst {l : List D} : (D.lst l).isS = false := rfl
@[simp] theorem isS_tup {l : List D} : (D.tup l).isS = false := rfl
@[simp] theorem isS_dct {k : List Key} {l : List D} : (D.dct k l).isS = false := rfl
@[simp] theorem isS_obj {C : Addr} {n : List Str} {l : List D} : (D.obj C n l).isS = false := rfl
@[simp] theorem isS_exc {C x : Addr} {n : List Str} {l : List D} : (D.exc C x n l).isS = false := rfl
@[simp] theorem isI_non : D.non.isI = false := rfl
@[simp] theorem isI_bl {b : Bool} : (D.bl b).isI = false := rfl
@[simp] theorem isI_int {i : Int} : (D.int i).isI = true := rfl
@[simp] theorem isI_str {s : Str} : (D.str s).isI = false := rfl
@[simp] theorem isI_lst {l : List D} : (D.lst l).isI = false := rfl
@[simp] theorem isI_tup {l : List D} : (D.tup l).isI = false := rfl
@[simp] theorem isI_dct {k : List Key} {l : List D} : (D.dct k l).isI = false := rfl
@[simp] theorem isI_obj {C : Addr} {n : List Str} {l : List D} : (D.obj C n l).isI = false := rfl
@[simp] theorem isI_exc {C x : Addr} {n : List Str} {l : List D} : (D.exc C x n l).isI = false := rfl
@[simp] theorem isB_non : D.non.isB = false := rfl
@[simp] theorem isB_bl {b : Bool} : (D.bl b).isB = true := rfl
@[simp] theorem isB_int {i : Int} : (D.int i).isB = false := rfl
@[simp] theorem isB_str {s : Str} : (D.str s).isB = false := rfl
@[simp] theorem isB_lst {l : List D} : (D.lst l).isB = false := rfl
@[simp] theorem isB_tup {l : List D} : (D.tup l).isB = false := rfl
@[simp] theorem isB_dct {k : List Key} {l : List D} : (D.dct k l).isB = false := rfl
@[simp] theorem isB_obj {C : Addr} {n : List Str} {l : List D} : (D.obj C n l).isB = false := rfl
@[simp] theorem isB_exc {C x : Addr} {n : List Str} {l : List D} : (D.exc C x n l).isB = false := rfl
@[simp] theorem isT_non : D.non.isT = false := rfl
@[simp] theorem isT_bl {b : Bool} : (D.bl b).isT = false := rfl
@[simp] theorem isT_int {i : Int} : (D.int i).isT = false := rfl
@[simp] theorem isT_str {s : Str} : (D.str s).isT = false := rfl
@[simp] theorem isT_lst {l : List D} : (D.lst l).isT = false := rfl
@[simp] theorem isT_tup {l : List D} : (D.tup l).isT = true := rfl
@[simp] theorem isT_dct {k : List Key} {l : List D} : (D.dct k l).isT = false := rfl
@[simp] theorem isT_obj {C : Addr} {n : List Str} {l : List D} : (D.obj C n l).isT = false := rfl
@[simp] theorem isT_exc {C x : Addr} {n : List Str} {l : List D} : (D.exc C x n l).isT = false := rfl
@[simp] theorem isL_non : D.non.isL = false := rfl
@[simp] theorem isL_bl {b : Bool} : (D.bl b).isL = false := rfl
@[simp] theorem isL_int {i : Int} : (D.int i).isL = false := rfl
@[simp] theorem isL_str {s : Str} : (D.str s).isL = false := rfl
@[simp] theorem isL_lst {l : List D} : (D.lst l).isL = true := rfl
@[simp] theorem isL_tup {l : List D} : (D.tup l).isL = false := rfl
@[simp] theorem isL_dct {k : List Key} {l : List D} : (D.dct k l).isL = false := rfl
@[simp] theorem isL_obj {C : Addr} {n : List Str} {l : List D} : (D.obj C n l).isL = false := rfl
@[simp] theorem isL_exc {C x : Addr} {n : List Str} {l : List D} : (D.exc C x n l).isL = false := rfl
@[simp] theorem isNon_non : D.non.isNon = true := rfl
@[simp] theorem isNon_bl {b : Bool} : (D.bl b).isNon = false := rfl
@[simp] theorem isNon_int {i : Int} : (D.int i).isNon = false := rfl
@[simp] theorem isNon_str {s : Str} : (D.str s).isNon = false := rfl
@[simp] theorem isNon_lst {l : List D} : (D.lst l).isNon = false := rfl
@[simp] theorem isNon_tup {l : List D} : (D.tup l).isNon = false := rfl
@[simp] theorem isNon_dct {k : List Key} {l : List D} : (D.dct k l).isNon = false := rfl
@[simp] theorem isNon_obj {C : Addr} {n : List Str} {l : List D} : (D.obj C n l).isNon = false := rfl
@[simp] theorem isNon_exc {C x : Addr} {n : List Str} {l : List D} : (D.exc C x n l).isNon = false := rfl
@[simp] theorem isBl_non {q : Bool} : D.non.isBl q = false := rfl
@[simp] theorem isBl_int {i : Int} {q : Bool} : (D.int i).isBl q = false := rfl
@[simp] theorem isBl_str {s : Str} {q : Bool} : (D.str s).isBl q = false := rfl
@[simp] theorem isBl_lst {l : List D} {q : Bool} : (D.lst l).isBl q = false := rfl
@[simp] theorem isBl_tup {l : List D} {q : Bool} : (D.tup l).isBl q = false := rfl
@[simp] theorem isBl_dct {k : List Key} {l : List D} {q : Bool} : (D.dct k l).isBl q = false := rfl
@[simp] theorem isBl_obj {C : Addr} {n : List Str} {l : List D} {q : Bool} : (D.obj C n l).isBl q = false := rfl
@[simp] theorem isBl_exc {C x : Addr} {n : List Str} {l : List D} {q : Bool} : (D.exc C x n l).isBl q = false := rfl
@[simp] theorem isBl_bl {b k : Bool} : (D.bl b).isBl k = (b == k) := rfl
@[simp] theorem builtin_non : D.non.builtin = true := rfl
@[simp] theorem builtin_bl {b : Bool} : (D.bl b).builtin = true := rfl
@[simp] theorem builtin_int {i : Int} : (D.int i).builtin = true := rfl
@[simp] theorem builtin_str {s : Str} : (D.str s).builtin = true := rfl
@[simp] theorem builtin_lst {l : List D} : (D.lst l).builtin = true := rfl
@[simp] theorem builtin_tup {l : List D} : (D.tup l).builtin = true := rfl
@[simp] theorem builtin_dct {k : List Key} {l : List D} : (D.dct k l).builtin = true := rfl
@[simp] theorem builtin_obj {C : Addr} {n : List Str} {l : List D} : (D.obj C n l).builtin = false := rfl
@[simp] theorem builtin_exc {C x : Addr} {n : List Str} {l : List D} : (D.exc C x n l).builtin = false := rfl
@[simp] theorem len_tup {l : List D} : (D.tup l).len = some l.length := rfl
@[simp] theorem len_lst {l : List D} : (D.lst l).len = some l.length := rfl
theorem len_str {s : Str} (h : s.length ≤ 1000000) : (D.str s).len = some s.length := if_pos h
@[simp] theorem its_tup {l : List D} : (D.tup l).its = some l := rfl
@[simp] theorem its_lst {l : List D} : (D.lst l).its = some l := rfl
@[simp] theorem itemsOf_tup {l : List D} : itemsOf (D.tup l) = some l := rfl
@[simp] theorem itemsOf_lst {l : List D} : itemsOf (D.lst l) = some l := rfl
@[simp] theorem itemsOf_str {s : Str} : itemsOf (D.str s) = some (DL.signs s) := rfl
@[simp] theorem tt_bl {b : Bool} : (D.bl b).tt = b := rfl
@[simp] theorem toI_int {i : Int} : (D.int i).toI = i := rfl
@[simp] theorem toS_str {s : Str} : (D.str s).toS = s := rfl
@[simp] theorem signs_length {s : Str} : (DL.signs s).length = s.length := by unfold DL.signs; rw [List.length_map]; rfl
theorem mem_signs {d : D} {z : Str} (h : d ∈ DL.signs z) : ∃ k, k ∈ z.cps.toList ∧ d = .str ⟨#[k]⟩ := by
  unfold DL.signs at h
  obtain ⟨k, hk, e⟩ := List.mem_map.mp h
  exact ⟨k, hk, e.symm⟩
@[simp] theorem is_name {K : PySem.W.Frag} {i : Nat} : (WG.name (K := K) i).is = [i] := rfl
theorem atI_nat {α : Type} {l : List α} {i : Int} (h0 : 0 ≤ i) : atI l i = l[i.toNat]? := by
  unfold atI
  cases h : ixN l.length i with
  | none =>
    unfold ixN at h
    rw [if_pos h0] at h
    split at h
    · cases h
    · rw [List.getElem?_eq_none (by omega)]; rfl
  | some j =>
    unfold ixN at h
    rw [if_pos h0] at h
    split at h
    · cases h; rfl
    · cases h
@[simp] theorem atI_0 {α : Type} {l : List α} : atI l 0 = l[0]? := atI_nat (by decide)
@[simp] theorem atI_1 {α : Type} {l : List α} : atI l 1 = l[1]? := atI_nat (by decide)
@[simp] theorem atI_2 {α : Type} {l : List α} : atI l 2 = l[2]? := atI_nat (by decide)
@[simp] theorem atI_3 {α : Type} {l : List α} : atI l 3 = l[3]? := atI_nat (by decide)
@[simp] theorem atI_neg1 {α : Type} {l : List α} {a : α} : atI (l ++ [a]) (-1) = some a := by
  unfold atI ixN
  rw [if_neg (by decide), if_pos (by simp; omega)]
  have e : ((-1 : Int) + ((l ++ [a]).length : Int)).toNat = l.length := by simp; omega
  show (l ++ [a])[((-1 : Int) + ((l ++ [a]).length : Int)).toNat]? = some a
  rw [e]; simp
theorem cutD_from {ds : List D} {n : Nat} : cutD ds (some (n : Int)) none = ds.drop n := by
  unfold cutD
  rw [HT.sIx_nat, HT.sIx_none]
  rw [List.take_of_length_le (by rw [List.length_drop]; omega)]
  by_cases h : n ≤ ds.length
  · rw [Nat.min_eq_left h]
  · rw [Nat.min_eq_right (by omega), List.drop_length, List.drop_of_length_le (by omega)]
theorem cutD_to {ds : List D} {n : Nat} : cutD ds none (some (n : Int)) = ds.take n := by
  unfold cutD
  rw [HT.sIx_nat, HT.sIx_none, List.drop_zero, Nat.sub_zero]
  by_cases h : n ≤ ds.length
  · rw [Nat.min_eq_left h]
  · rw [Nat.min_eq_right (by omega), List.take_length, List.take_of_length_le (by omega)]
theorem cutD_mid {ds : List D} {n m : Nat} : cutD ds (some (n : Int)) (some (m : Int)) = (ds.take m).drop n := by
  unfold cutD
  rw [HT.sIx_nat, HT.sIx_nat]
  apply List.ext_getElem?
  intro i
  simp [List.getElem?_take, List.getElem?_drop]
  by_cases h1 : n + i < ds.length
  · by_cases h2 : n + i < m
    · rw [if_pos (by omega), if_pos (by omega), Nat.min_eq_left (by omega)]
    · rw [if_neg (by omega), if_neg (by omega)]
  · have e : ds[n + i]? = none := List.getElem?_eq_none (by omega)
    have e2 : ds[min n ds.length + i]? = none := by
      by_cases h : n ≤ ds.length
      · rw [Nat.min_eq_left h]; exact e
      · rw [Nat.min_eq_right (by omega)]; exact List.getElem?_eq_none (by omega)
    rw [e, e2]; simp
@[simp] theorem cutD_1 {ds : List D} : cutD ds (some 1) none = ds.drop 1 := cutD_from (n := 1)
@[simp] theorem cutD_2 {ds : List D} : cutD ds (some 2) none = ds.drop 2 := cutD_from (n := 2)
@[simp] theorem cutD_t1 {ds : List D} : cutD ds none (some 1) = ds.take 1 := cutD_to (n := 1)
@[simp] theorem cutD_t2 {ds : List D} : cutD ds none (some 2) = ds.take 2 := cutD_to (n := 2)
@[simp] theorem cutD_t3 {ds : List D} : cutD ds none (some 3) = ds.take 3 := cutD_to (n := 3)
@[simp] theorem cutD_13 {ds : List D} : cutD ds (some 1) (some 3) = (ds.take 3).drop 1 := cutD_mid (n := 1) (m := 3)
@[simp] theorem flat_str {s : Str} : (D.str s).flat = true := rfl
@[simp] theorem flat_int {s : Int} : (D.int s).flat = true := rfl
theorem inD1 {z a : Str} : inD (.str z) [.str a] = decide (z = a) := by
  simp only [inD, inV, D.v, eqV, List.map, List.any, Bool.or_false]
  rw [Bool.eq_iff_iff]; simp only [beq_iff_eq, decide_eq_true_eq]; exact ⟨Eq.symm, Eq.symm⟩
theorem inD_cons {z a : Str} {ds : List D} : inD (.str z) (.str a :: ds) = (decide (z = a) || inD (.str z) ds) := by
  simp only [inD, inV, D.v, eqV, List.map, List.any]
  congr 1
  rw [Bool.eq_iff_iff]; simp only [beq_iff_eq, decide_eq_true_eq]; exact ⟨Eq.symm, Eq.symm⟩
theorem inD_nil {x : D} : inD x [] = false := rfl
theorem okL {l : List D} {n : Nat} (h : ∀ d ∈ l, GD 63 n d) : (D.lst l).ok = true := (GDs.all h).lst.ok
theorem okT {l : List D} {n : Nat} (h : ∀ d ∈ l, GD 63 n d) : (D.tup l).ok = true := (GDs.all h).tup.ok
theorem ok_nil : (D.lst []).ok = true := okL (n := 0) fun _ h => nomatch h
theorem eqv_nil {l : List D} : (D.lst l).eqv (.lst []) = l.isEmpty := by
  show PyData.eqv (.list (D.pys l)) (.list (D.pys [])) = _
  unfold PyData.eqv
  cases l with
  | nil => rfl
  | cons d l => rfl
theorem sign_gd {z : Str} {c k n : Nat} (h : GD k n (.str z)) (hc : c ∈ z.cps.toList) : GD 63 12 (.str ⟨#[c]⟩) := by
  refine .str ?_ (by show 10 * 1 + 2 ≤ 12; decide)
  have e := h.strOk
  unfold PyData.strOk at e ⊢
  rw [← Array.all_toList, List.all_eq_true] at e
  simp only [List.all_toArray, List.all_cons, List.all_nil, Bool.and_true]
  exact e c hc
theorem inD_int {i a : Int} {ds : List D} : inD (.int i) (.int a :: ds) = (decide (i = a) || inD (.int i) ds) := by
  simp only [inD, inV, D.v, eqV, List.map, List.any]
  congr 1
  rw [Bool.eq_iff_iff]; simp only [beq_iff_eq, decide_eq_true_eq]; exact ⟨Eq.symm, Eq.symm⟩
theorem filter_empty {α β : Type} {l : List α} {b : α → Bool} {f : α → β} : ((l.filter b).map f).isEmpty = l.all fun a => !b a := by
  induction l with
  | nil => rfl
  | cons a l ih =>
    cases h : b a with
    | true => simp [h]
    | false => simp only [List.filter_cons, h, List.all_cons, Bool.not_false, Bool.true_and]; exact ih
theorem strOk_sub {x y : Str} (h : ∀ c ∈ x.cps.toList, c ∈ y.cps.toList) (k : PyData.strOk y = true) : PyData.strOk x = true := by
  unfold PyData.strOk at k ⊢
  rw [← Array.all_toList, List.all_eq_true] at k ⊢
  exact fun c hc => k c (h c hc)
theorem cut_tup {ds : List D} {lo hi : Option Int} : (D.tup ds).cut lo hi = .tup (cutD ds lo hi) := rfl
theorem cut_lst {ds : List D} {lo hi : Option Int} : (D.lst ds).cut lo hi = .lst (cutD ds lo hi) := rfl
theorem len_cps {z : Str} : z.cps.toList.length = z.length := rfl
section
variable {K : PySem.W.Frag} {E : XK} {χ : Xq} {Γ : List Sk}
theorem datAt_set {i : Nat} {s : Sk} {d : D} {φ : D → Prop} (h : i < Γ.length) (f : φ d) : DatAt ((Γ.set i s).set i (.dat d)) i φ := by
  unfold DatAt
  rw [List.getElem?_set_self (by simpa using h)]
  exact f
/-- [d for d in ds if not b(d)] == [] -/
theorem lc_not {i : Nat} {tt : WT K E} {ds : List D} {L n : Nat} (b : D → Bool) {B : Bool} (hl : ds.length ≤ L) (hi : i < Γ.length) (hg : ∀ d ∈ ds, GD 63 n d) (ht : ∀ d ∈ ds, tt.w χ (setD (wipeG Γ [i]) [(i, d)]) (· = !b d)) (hB : ds.all b = B) :
    LcP (WG.name i) tt (WE.var i) χ Γ L ds fun x => 0 ≤ 1000 ∧ x.ok = true ∧ (D.lst []).ok = true ∧ x.eqv (D.lst []) = B := by
  refine LcP.filt (fun d => !b d) id hl (fun d hd => ⟨_, rfl, ht d hd, fun _ => datAt_set hi rfl⟩) ⟨by decide, okL (n := n) fun d hd => ?_, ok_nil, ?_⟩
  · rw [List.map_id] at hd
    exact hg d (List.mem_filter.mp hd).1
  · rw [eqv_nil, filter_empty, ← hB]; simp
theorem lc_not2 {i : Nat} {tt : WT K E} {ds : List D} {L n : Nat} (b : D → Bool) {B : Bool} (hl : ds.length ≤ L) (hi : i < Γ.length) (hg : ∀ d ∈ ds, GD 63 n d) (ht : ∀ d ∈ ds, tt.w χ (setD (wipeG Γ [i]) [(i, d)]) (· = !b d)) (hB : ds.all b = B) :
    LcP (WG.name i) tt (WE.var i) χ Γ L ds fun x => x.ok = true ∧ (D.lst []).ok = true ∧ x.eqv (D.lst []) = B := by
  have h := lc_not (χ := χ) (Γ := Γ) (tt := tt) b hl hi hg ht hB
  obtain ⟨h1, T, F, h2, h3⟩ := h
  exact ⟨h1, T, F, h2, fun es c => (h3 es c).2⟩
end
theorem GV.it63 {ds : List D} (h : GV (.tup ds)) : ∀ d ∈ ds, GD 63 10000000 d := h.tups.mem
theorem GV.li63 {ds : List D} (h : GV (.lst ds)) : ∀ d ∈ ds, GD 63 10000000 d := h.lsts.mem
theorem its_len {d : D} {ds : List D} (h : d.its = some ds) : d.len = some ds.length := by
  cases d <;> first | (cases h; rfl) | cases h
theorem ix_its {K : PySem.W.Frag} {d : D} {ds : List D} {k : Int} {φ : D → Prop} (h : d.its = some ds) (k0 : 0 ≤ k) (k1 : k < (ds.length : Int)) (f : ∀ x ∈ ds, φ x) : (O2.ix (K := K)).w d (.int k) φ := by
  have e : ds[k.toNat]? = some (ds[k.toNat]'(by omega)) := List.getElem?_eq_getElem _
  cases d with
  | tup l => cases h; exact ⟨_, (atI_nat k0).trans e, f _ (List.getElem_mem _)⟩
  | lst l => cases h; exact ⟨_, (atI_nat k0).trans e, f _ (List.getElem_mem _)⟩
  | _ => cases h
theorem ix_strs {K : PySem.W.Frag} {z : Str} {k : Int} {φ : D → Prop} (hz : z.length ≤ 1000000) (k0 : 0 ≤ k) (k1 : k < (z.length : Int)) (f : ∀ c ∈ z.cps.toList, φ (.str ⟨#[c]⟩)) : (O2.ix (K := K)).w (.str z) (.int k) φ := by
  have hl : k.toNat < z.cps.toList.length := by rw [len_cps]; omega
  have e : z.cps.toList[k.toNat]? = some (z.cps.toList[k.toNat]'hl) := List.getElem?_eq_getElem _
  exact ⟨_, (atI_nat k0).trans e, hz, f _ (List.getElem_mem _)⟩
@[simp] theorem rngD_len {lo : Int} {n : Nat} : (rngD lo n).length = n := by simp [rngD]
theorem rngD_get {lo : Int} {n i : Nat} {d : D} (h : (rngD lo n)[i]? = some d) : i < n ∧ d = .int (lo + (i : Int)) := by
  unfold rngD at h
  rw [List.getElem?_map] at h
  cases e : (List.range n)[i]? with
  | none => rw [e] at h; cases h
  | some j =>
    rw [e] at h
    have := List.getElem?_eq_some_iff.mp e
    obtain ⟨h1, h2⟩ := this
    simp at h1 h2
    cases h
    exact ⟨h1, by rw [h2]⟩
theorem mem_rngD {lo : Int} {n : Nat} {d : D} (h : d ∈ rngD lo n) : ∃ i, i < n ∧ d = .int (lo + (i : Int)) := by
  unfold rngD at h
  obtain ⟨i, h1, h2⟩ := List.mem_map.mp h
  exact ⟨i, List.mem_range.mp h1, h2.symm⟩
theorem mem_erase {α : Type} {l : List α} {i : Nat} {x : α} (h : x ∈ l.eraseIdx i) : x ∈ l := List.mem_of_mem_eraseIdx h
/-! short texts -/
/-- a short text -/
def SO (n : Nat) (d : D) : Prop := ∃ z, d = .str z ∧ PyData.strOk z = true ∧ z.length ≤ n
theorem SO.gd {n k : Nat} {d : D} (h : SO n d) : GD k (10 * n + 2) d := by
  obtain ⟨z, rfl, h1, h2⟩ := h
  exact .str h1 (by omega)
theorem SO.mono {n m : Nat} {d : D} (h : SO n d) (e : n ≤ m) : SO m d := by
  obtain ⟨z, h0, h1, h2⟩ := h
  exact ⟨z, h0, h1, by omega⟩
theorem str_len_add {a b : Str} : (a ++ b).length = a.length + b.length := by
  show (a.cps ++ b.cps).size = _
  rw [Array.size_append]; rfl
theorem strOk_add {a b : Str} (h : PyData.strOk a = true) (k : PyData.strOk b = true) : PyData.strOk (a ++ b) = true := by
  unfold PyData.strOk at h k ⊢
  show (a.cps ++ b.cps).all _ = true
  rw [Array.all_append, h, k]; rfl
theorem SO.add {K : PySem.W.Frag} {n m : Nat} {a b : D} {φ : D → Prop} (h : SO n a) (k : SO m b) (f : ∀ r, SO (n + m) r → φ r) (hs : n + m ≤ 1000000 := by decide) : (O2.add (K := K)).w a b φ := by
  obtain ⟨z, rfl, h1, h2⟩ := h
  obtain ⟨y, rfl, k1, k2⟩ := k
  exact ⟨by omega, f _ ⟨_, rfl, strOk_add h1 k1, by rw [str_len_add]; omega⟩⟩
theorem SO.lit {z : Str} {n : Nat} (h : PyData.strOk z = true := by decide +kernel) (k : z.length ≤ n := by decide) : SO n (.str z) := ⟨z, rfl, h, k⟩
theorem SO.sgn {z : Str} {c : Nat} (h : PyData.strOk z = true) (hc : c ∈ z.cps.toList) : SO 1 (.str ⟨#[c]⟩) := by
  refine ⟨_, rfl, ?_, Nat.le_refl 1⟩
  unfold PyData.strOk at h ⊢
  rw [← Array.all_toList, List.all_eq_true] at h
  simp only [List.all_toArray, List.all_cons, List.all_nil, Bool.and_true]
  exact h c hc
theorem SO.cut {n : Nat} {a : D} {lo hi : Option Int} (h : SO n a) : SO n (a.cut lo hi) := by
  obtain ⟨z, rfl, h1, h2⟩ := h
  have e : (cutS z lo hi).cps.toList = (z.cps.toList.drop (HT.sIx z.length 0 lo)).take (HT.sIx z.length z.length hi - HT.sIx z.length 0 lo) := rfl
  refine ⟨cutS z lo hi, rfl, strOk_sub (fun c hc => ?_) h1, ?_⟩
  · rw [e] at hc
    exact List.mem_of_mem_drop (List.mem_of_mem_take hc)
  · have e2 : (cutS z lo hi).length = (cutS z lo hi).cps.toList.length := rfl
    rw [e2, e, List.length_take, List.length_drop, len_cps]
    omega
theorem gdI {k n : Nat} {i : Int} (h : -(2 ^ 120) < i ∧ i < 2 ^ 120) (b : 1930 ≤ n := by decide) : GD k n (.int i) := by
  refine .int ?_ b
  by_cases z : i.natAbs = 0
  · rw [z]; decide
  · have h2 : i.natAbs < 2 ^ 120 := by omega
    have := (Nat.log2_lt z).mpr h2
    omega
theorem gdT {k n k' n' : Nat} {ds : List D} (h : GDs k n ds) (a : k + 1 ≤ k' := by decide) (b : n + 3 ≤ n' := by decide) : GD k' n' (.tup ds) := h.tup.mono a b
theorem gdL {k n k' n' : Nat} {ds : List D} (h : GDs k n ds) (a : k + 1 ≤ k' := by decide) (b : n + 3 ≤ n' := by decide) : GD k' n' (.lst ds) := h.lst.mono a b
theorem gdS {k n : Nat} {z : Str} (h : PyData.strOk z = true := by decide +kernel) (b : 10 * z.length + 2 ≤ n := by decide) : GD k n (.str z) := .str h b
end DL
set_option maxRecDepth 100000
set_option maxHeartbeats 4000000
/-! DLe: errors: raised, caught, read. -/
namespace DL
open PySem L2 PyProof.Rows
/-- a def of the text that may raise -/
structure CalX (P : Program) (w : World) (K : PySem.W.Frag) (mg : Str → Option Value) (base : Heap) (x : Str) (k : Nat) (ps : List Str) (dvs : List V) (sp : Sp) : Prop where
  ex : ∃ f fd ds, FnG P w K mg base (L2.CX P w) k f fd ps sp ∧ mg x = some (.ref f) ∧ PySem.W.keepIn K (.ref f) = true ∧ Binds K fd ps ds ∧ Vals dvs ds
section
variable {X : Cx} {CX : CXT} {k j : Nat} {f : Addr} {fd : FuncData} {ps : List Str} {sp : Sp} {x : Str} {p pos : Pos} {e : Expr} {es : List Expr} {t : TA} {ds : List Value} {dvs : List V} {W : WX} {E : L2.St → XK}
theorem rungS {pins : List (Addr × Obj)} {σ : L2.St} {H : Hp} {s : Shared} {Q : VK} {us : List Value} {vs : List V} (F : FnG X.prog X.w X.K X.mg X.base CX k f fd ps sp) (hr : Room k X.A) (ng : NoG X.A) (hb : Binds X.K fd ps ds) (hd : Vals dvs ds) (hx : PassesAt CX X σ (E σ))
    (I : L2.Inv X pins σ H s) (r : Vals vs us) (h : sp (vs ++ dvs) H Q (E σ)) : wpAny (model X.prog X.w) X.A (call (.ref f) us) (EP X pins σ Q) X.xe s := by
  have both := r.append hd
  have same : (us ++ ds).length = ps.length := both.length.symm.trans (F.len _ _ _ _ h)
  refine wpAny_call (codeAny_mono (F.run X.A hr ng X.stack s H ⟨us, []⟩ _ _ Q (E σ) I.env0 (hb s us I.kIn same) both h) fun res s' got => ?_)
  cases res with
  | error er => exact hx pins H s er s' I got
  | ok flow => cases flow with
    | ret u => exact I.after got
    | next => exact got.elim
    | brk => exact got.elim
    | cont => exact got.elim
theorem peg_calX (C : CalX X.prog X.w X.K X.mg X.base x j ps dvs sp) (hr : Room k X.A) (hj : j ≤ k) (ng : NoG X.A) (hg : Gl X x) (tk : Takes X W) (ha : PA X (e :: es) t)
    (h1 : (x == ("__debug__" : Str)) = false := by decide) (h2 : starEach (e :: es) X.env = (false, eval e X.env) :: starEach es X.env := by rfl) (h3 : (backTo pos (starEach es X.env)).any (·.1) = false := by rfl) : PE X (.Call (.Name x p) (e :: es) [] pos) (tCallSD sp dvs (L2.WE W) t) := by
  obtain ⟨f, fd, ds, F, hm, hk, hb, hd⟩ := C.ex
  refine ⟨fun pins s σ H Q I h => ?_⟩
  refine wpAny_Call_Name_kw (ld_glob I hg hm ?_ h1)
  refine PySem.W.callWith_K (h₀ := X.base) I.ok.mod.kin hk (thn (ha.run pos pins s σ H _ I h) fun us s1 ⟨vs, H1, I1, r, q⟩ => ⟨I1.kIn, ?_⟩) h2 h3
  exact rungS F (hr.mono hj) ng hb hd (passAt tk σ) I1 r q
end
/-! ### an own class of errors -/
/-- what the written part says of an own class with an __init__ that sets the fields ns -/
structure OwnC (K : PySem.W.Frag) (mg : Str → Option Value) (x : Str) (C fI : Addr) (ns : List Str) : Prop where
  ox : OexC K C
  xf : XfC K C
  iC : PySem.W.findIn K (.ref C) "__init__" = some (some (.ref fI))
  tI : PySem.W.typeIn K (.ref fI) = some (.type "function")
  no : ∀ f ∈ ns, PySem.W.findIn K (.ref C) f = some none
  m : mg x = some (.ref C)
  self : PySem.W.exmOne K (.ref C) (.ref C) = some true
/-- __init__ sets the fields -/
def SpI (K : PySem.W.Frag) (ns : List Str) : Sp := fun vs H Q _ => ∃ (a C : Addr) (ws : List V), vs = .ref a :: ws ∧ ws.length = ns.length ∧ OexC K C ∧ (∀ f ∈ ns, PySem.W.findIn K (.ref C) f = some none) ∧ H a = some (exo a C none) ∧
  ∀ dx H2, H dx = none → dx ≠ a → H2 a = some (exo a C (some dx)) → H2 dx = some (exd dx (ns.zip ws).reverse) → (∀ b, b ≠ a → b ≠ dx → H2 b = H b) → Q .non H2
theorem init1_ok {K : PySem.W.Frag} {f : Str} {vs : List V} {H : Hp} {Q : VK} {E : XK} (h : SpI K [f] vs H Q E) : tOst K f (tVar 0) (tVar 1) { nx := fun _ H' => Q .non H', rt := Q } (L2.start ["self", "x"] vs) H := by
  obtain ⟨a, C, ws, rfl, hl, T, no, ha, q⟩ := h
  match ws, hl with
  | [y], _ =>
    refine ⟨_, rfl, _, rfl, a, C, rfl, T, no f (by simp), .inl ⟨ha, fun dx h1 h2 => ?_⟩⟩
    refine q dx _ h1 h2 upd_same ?_ fun b n1 n2 => ?_
    · rw [upd_ne h2]; exact upd_same
    · rw [upd_ne n1, upd_ne n2]
theorem zip_rev {α β : Type} : ∀ {l : List α} {m : List β}, l.length = m.length → (l.zip m).reverse = l.reverse.zip m.reverse
  | [], [], _ => rfl
  | a :: l, b :: m, h => by
    have h' : l.length = m.length := by simpa using h
    rw [List.zip_cons_cons, List.reverse_cons, List.reverse_cons, List.reverse_cons, zip_rev h', List.zip_append (by rw [List.length_reverse, List.length_reverse, h'])]
    rfl
section
variable {K : PySem.W.Frag} {E : XK}
/-- raise C(..) -/
def WS.raiseO (C : Addr) (ns : List Str) (a : WA K E) (T : OexC K C) (no : ∀ f ∈ ns, PySem.W.findIn K (.ref C) f = some none) : WS K E := ⟨fun _ σ H => tMkO C (SpI K ns) [] a.t σ H fun cls d H' => E cls d H', a.m, fun χ Γ W => a.w χ Γ fun ds => ds.length = ns.length ∧ ds.length ≤ 1000 ∧ χ C (ns.zip ds).reverse, fun {p χ Γ W} h Hb Hd0 H0 σ Hd H n o l x En k1 k2 k3 k4 => by
  refine a.ok h σ Hd H n o.sr o.g.s o.pe l (x.grow o.g) _ fun vs ds Hd1 H1 g1 pe1 ⟨f1, f2, f3⟩ r => ⟨by rw [r.length]; exact f2, fun a' ha => ?_⟩
  refine ⟨a', C, vs, by rw [List.append_nil], by rw [r.length]; exact f1, T, no, upd_same, fun dx H2 h1 h2 e1 e2 e3 => ⟨rfl, dx, _, e1, e2, ?_, ?_⟩⟩
  · rw [upd_ne h2] at h1; exact h1
  · rw [upd_ne h2] at h1
    have eH : upd (del H2 a') dx (.xd (ns.zip vs).reverse) = upd H1 dx (.xd (ns.zip vs).reverse) := by
      funext b
      by_cases q : b = dx
      · subst q; rw [upd_same, upd_same]
      · rw [upd_ne q, upd_ne q]
        by_cases q2 : b = a'
        · subst q2; rw [del_same, ha]
        · rw [del_ne q2, e3 b q2 q, upd_ne q2]
    rw [eH]
    have g2 : Grow (p.a) Hd1 H1 (upd Hd1 dx (.xd (ns.zip vs).reverse)) (upd H1 dx (.xd (ns.zip vs).reverse)) := Grow.new g1.s h1
    refine x C dx _ _ _ ((o.g.trans g1).trans g2) f3 ?_
    have hz : (ns.zip vs).reverse = (((ns.zip ds).reverse).map (·.1)).zip vs.reverse := by
      have l1 : ns.length = vs.length := by rw [r.length, f1]
      rw [List.map_reverse, List.map_fst_zip (by omega)]
      rw [zip_rev (by omega)]
    refine ⟨vs.reverse, ?_, ?_⟩
    · rw [← hz]; exact upd_same
    · rw [List.map_reverse, List.map_snd_zip (by omega)]
      exact (r.mono g2.d).reverse⟩
/-- error.f in the suite of a clause: the error at a, of the class cls, its fields' dict at d -/
def lookD : List Str → List D → Str → Option D
  | n :: ns, d :: ds, f => if f = n then some d else lookD ns ds f
  | _, _, _ => none
theorem look_zip {H : Hp} {f : Str} : ∀ {ns : List Str} {xs : List V} {ds : List D}, Reps K H xs ds → ∀ {d : D}, lookD ns ds f = some d → ∃ v, (ns.zip xs).lookup f = some v ∧ Rep K H v d
  | [], _, _, _, d, h => by unfold lookD at h; cases h
  | n :: ns, _, _, .nil, d, h => by unfold lookD at h; cases h
  | n :: ns, x :: xs, e :: ds, .cons h1 r, d, h => by
    rw [List.zip_cons_cons]
    by_cases z : f = n
    · rw [show lookD (n :: ns) (e :: ds) f = some e from if_pos z] at h
      cases h
      subst z
      exact ⟨x, by simp [List.lookup], h1⟩
    · rw [show lookD (n :: ns) (e :: ds) f = lookD ns ds f from if_neg z] at h
      obtain ⟨v, q1, q2⟩ := look_zip r h
      have z' : (f == n) = false := by simpa using z
      exact ⟨v, by simp [List.lookup, z']; exact q1, q2⟩
def WE.xf (a : Addr) (cls : Value) (d : Option Addr) (C : Addr) (f : Str) (e : WE K E) : WE K E := ⟨tXf a cls d C f e.t, e.m, fun χ Γ φ => e.w χ Γ fun x => ∃ dx ns ds y, x = .exc a dx ns ds ∧ cls = .ref C ∧ d = some dx ∧ lookD ns ds f = some y ∧ φ y, fun {p χ Γ φ} h σ Hd H n s sa pe l x Q q =>
  e.ok h σ Hd H n s sa pe l x _ fun v d' Hd1 H1 g1 pe1 ⟨dx, ns, ds, y, e1, e2, e3, e4, f1⟩ r => by
    subst e1
    cases r with
    | exc h1 h2 h3 =>
      obtain ⟨v, q1, q2⟩ := look_zip h3 e4
      exact ⟨rfl, e2, _, _, v, e3, g1.s _ _ h1, q1, q v y Hd1 H1 g1 pe1 f1 q2⟩⟩
theorem Ok.unset {c : Ct} {Hb Hd0 H0 Hd H : Hp} {σ : L2.St} {Γ : List Sk} {n i : Nat} (o : Ok c Hb Hd0 H0 σ Γ Hd H n) : Ok c Hb Hd0 H0 (σ.set i none) (Γ.set i .un) Hd H n :=
  o.slots (o.sr.set (i := i) (o := none) (k := .un) True.intro rfl) fun j k h1 h2 => by
    by_cases e : i = j
    · subst e
      rw [List.getElem?_set_self (by
        have := (List.getElem?_eq_some_iff.mp h1).1
        simpa using this)] at h1
      cases h1; cases h2
    · rw [List.getElem?_set_ne e] at h1
      exact ⟨h1, by rw [List.getElem?_set_ne e]⟩
/-- try: x = f(..) except C as n: suite -/
def WS.tryAsg (j : Nat) (pre : List D → Prop) (post : List D → D → Prop) (χ' : List D → Xq) (a : WA K E) (i : Nat) (C : Addr) (suite : Addr → Value → Option Addr → WS K E) (m : Nat) (hm : ∀ a c d, (suite a c d).m ≤ m) (self : PySem.W.exmOne K (.ref C) (.ref C) = some true) : WS K E :=
  ⟨fun En σ H => tAsg (tCallSD (SpX K pre post χ') [] (L2.WE (wAs K (.ref C) i (fun a c d => (suite a c d).t) (fun _ _ _ _ => False) En)) a.t) (gName j) En σ H, a.m + m,
   fun χ Γ W => a.w χ Γ fun ds => pre ds ∧ (∀ d, post ds d → W.N (Γ.set j (.dat d))) ∧ ∀ C' fs, χ' ds C' fs → C' = C ∧ ∀ x dx, (suite x (.ref C) (some dx)).w χ (Γ.set i (.dat (.exc x dx (fs.map (·.1)) (fs.map (·.2))))) { N := fun G => W.N (G.set i .un), R := W.R, B := fun G => W.B (G.set i .un), C := fun G => W.C (G.set i .un) },
   fun {p χ Γ W} h Hb Hd0 H0 σ Hd H n o l x En k1 k2 k3 k4 => by
    refine a.ok h σ Hd H n o.sr o.g.s o.pe (by show n + a.m ≤ LIM; omega) (x.grow o.g) _ fun vs ds Hd1 H1 g1 pe1 ⟨f1, f2, f3⟩ r => ?_
    refine ⟨Hd1, ds, g1.s, by rw [List.append_nil]; exact r, f1, fun v d Hd2 H2 g2 q2 r2 => ?_, fun C' dx fs Hd2 H2 g2 hχ xa => ?_⟩
    · exact k1 _ _ _ _ (f2 d q2) (((o.grow (g1.trans g2.up) (pe1.grow g2)).set r2).more (by omega))
    · obtain ⟨rfl, f4⟩ := f3 C' fs hχ
      refine ⟨true, self, fun _ a' ha => ?_, fun z => nomatch z⟩
      obtain ⟨xs, e1, e2⟩ := xa
      have hl : (fs.map (·.1)).length = xs.length := by rw [e2.length, List.length_map, List.length_map]
      have o2 := (o.grow (g1.trans g2.up) (pe1.grow g2)).set (i := i) (v := .ref a') (d := .exc a' dx (fs.map (·.1)) (fs.map (·.2))) (.exc e1 hl e2)
      have hm' := hm a' (.ref C') (some dx)
      refine (suite a' (.ref C') (some dx)).ok (f4 a' dx) Hb Hd0 H0 _ _ _ _ o2 (by show n + a.m + (suite a' (.ref C') (some dx)).m ≤ LIM; omega) x _ ?_ ?_ ?_ ?_
      · intro Γ' σ' Hd' H' f o3; exact k1 _ _ _ _ f (o3.unset.more (by omega))
      · intro Γ' σ' Hd' H' f o3; exact k2 _ _ _ _ f (o3.unset.more (by omega))
      · intro Γ' σ' Hd' H' f o3; exact k3 _ _ _ _ f (o3.unset.more (by omega))
      · intro v d Hd' H' f g pe r; exact k4 _ _ _ _ f g (pe.more (by omega)) r⟩
end
/-! ### defs that raise, by their terms -/
section
variable {P : Program} {w : World} {K : PySem.W.Frag} {mg : Str → Option Value} {base : Heap} {x : Str} {k : Nat} {ps N : List Str} {dvs : List V} {st : Stmt} {pre : List D → Prop} {post : List D → D → Prop} {χ : List D → Xq}
theorem cal_WX (T : ∀ E : XK, WS K E) (Df : Def K mg x st ps dvs) (S : FnScope N ps (defScope st)) (hl : ∀ ds, pre ds → ds.length = ps.length)
    (hb : ∀ (f : Addr) (cdv : Value) (A : Around) (outer : List Env) (s : Shared) (H : Hp) (E : XK), Room k (A.deeper (envOfC x (defScope st) s.heap.objs.size f cdv)) → NoG (A.deeper (envOfC x (defScope st) s.heap.objs.size f cdv)) →
      ∃ t, PSs (cxOf (L2.CX P w) P w K mg base N x (defScope st) f cdv A outer s H E) (defBody st) t ∧ t = (T E).t) (hm : ∀ E, (T E).m = 0) (hw : ∀ E ds, pre ds → (T E).w (χ ds) (G0 N ds) (retW (post ds))) : CalX P w K mg base x (k + 1) ps dvs (SpX K pre post χ) := by
  obtain ⟨f, fd, ds, F, hm', b, v⟩ := Df.ex
  refine ⟨f, fd, ds, fng_of F S (fun vs H Q E h => ?_) (fun cdv A outer s H vs Q E hr ng h => ?_), hm', F.kp, b, v⟩
  · obtain ⟨Hd, ds, sa, r, hp, _⟩ := h
    rw [r.length, hl ds hp]
  · obtain ⟨Hd, ds, sa, r, hp, q, qx⟩ := h
    refine ⟨(T E).t, (hb f cdv A outer s H E hr ng).elim fun t h => h.2 ▸ h.1, (T E).ok (p := none) (χ := χ ds) (hw E ds hp) Hd Hd H _ Hd H 0 ⟨Same.refl _, sa, .refl sa, sr_start r, True.intro, fun i k' l h1 h2 _ => by rw [G0_own h1] at h2; cases h2⟩ (by rw [hm E]; decide) (fun C dx fs Hd' H' g hx xa => qx C dx fs Hd' H' g hx xa) _ ?_ ?_ ?_ ?_⟩
    · intro Γ' σ' Hd' H' n o; exact q .non .non Hd' H' o.g n .non
    · intro _ _ _ _ z; exact z.elim
    · intro _ _ _ _ z; exact z.elim
    · intro v d Hd' H' n g _ r'; exact q v d Hd' H' g n r'
end
end DL
namespace DL
open PySem L2 PyProof.Rows
/-- an own class whose __init__ is proved -/
structure OwnI (P : Program) (w : World) (K : PySem.W.Frag) (mg : Str → Option Value) (base : Heap) (x : Str) (C fI : Addr) (ns : List Str) (k : Nat) : Prop where
  own : OwnC K mg x C fI ns
  ex : ∃ fd ps, FnOk P w K mg base CX0 k fI fd ps (SpI K ns) ∧ Binds K fd ps []
/-- class C: def __init__(self, f): self.f = f -/
theorem init1_fn {P : Program} {w : World} {K : PySem.W.Frag} {mg : Str → Option Value} {base : Heap} {qual f : Str} {st : Stmt} {fI : Addr} {fd : FuncData} {N ps : List Str} (F : Fun K "__init__" qual st fI fd) (S : FnScope N ps (defScope st)) (hN : N.length = 2) (hp : ps.length = 2)
    (hb : ∀ (cdv : Value) (A : Around) (outer : List Env) (s : Shared) (H : Hp) (E : XK), PSs (cxOf CX0 P w K mg base N qual (defScope st) fI cdv A outer s H E).nox (defBody st) (tOst K f (tVar 0) (tVar 1))) : FnOk P w K mg base CX0 1 fI fd ps (SpI K [f]) :=
  F.ok (k := 0) S (fun vs H Q E h => by obtain ⟨a, C, ws, rfl, hl, _⟩ := h; rw [List.length_cons, hl, hp]; rfl) fun cdv A outer s H vs Q E hr h => ⟨_, hb cdv A outer s H E, by
    have e := init1_ok h (E := E)
    obtain ⟨a, C, ws, rfl, hl, _⟩ := h
    have e2 : L2.start N (.ref a :: ws) = L2.start ["self", "x"] (.ref a :: ws) := by
      unfold L2.start
      rw [hN]; rfl
    rw [e2]; exact e⟩
section
variable {X : Cx} {E : XK} {x : Str} {C fI : Addr} {ns : List Str} {j k : Nat} {e : Expr} {es : List Expr} {ta : TA} {p pos pos2 : Pos}
theorem ps_raiseO (O : OwnI X.prog X.w X.K X.mg X.base x C fI ns j) (hr : Room k X.A) (hj : j + 1 ≤ k) (hc : X.calm = true) (tk : Takes X (fun cls d _ H => E cls d H)) (hg : Gl X x) (ha : PA X (e :: es) ta)
    (hdb : (x == ("__debug__" : Str)) = false := by decide) (he : starEach (e :: es) X.env = (false, eval e X.env) :: starEach es X.env := by rfl) (hpl : (backTo pos (starEach es X.env)).any (·.1) = false := by rfl) :
    PS X (.Raise (some (.Call (.Name x p) (e :: es) [] pos)) none pos2) (fun _ σ H => tMkO C (SpI X.K ns) [] ta σ H fun cls d H' => E cls d H') := by
  obtain ⟨fd, ps, F, hb⟩ := O.ex
  exact ps_raise hc tk (pmk_oex O.own.ox O.own.iC O.own.tI F (hr.mono hj) hb .nil pass0 hg O.own.m ha hdb he hpl)
end
section
variable {K : PySem.W.Frag} {E : XK} {χ : Xq} {Γ : List Sk} {φ : D → Prop} {W : Wh}
theorem w_raiseO {C : Addr} {ns : List Str} {a : WA K E} {T : OexC K C} {no : ∀ f ∈ ns, PySem.W.findIn K (.ref C) f = some none} : (WS.raiseO C ns a T no).w χ Γ W = a.w χ Γ fun ds => ds.length = ns.length ∧ ds.length ≤ 1000 ∧ χ C (ns.zip ds).reverse := rfl
theorem w_xf {a : Addr} {cls : Value} {d : Option Addr} {C : Addr} {f : Str} {e : WE K E} : (WE.xf a cls d C f e).w χ Γ φ = e.w χ Γ fun x => ∃ dx ns ds y, x = .exc a dx ns ds ∧ cls = .ref C ∧ d = some dx ∧ lookD ns ds f = some y ∧ φ y := rfl
theorem w_tryAsg {j : Nat} {pre : List D → Prop} {post : List D → D → Prop} {χ' : List D → Xq} {a : WA K E} {i : Nat} {C : Addr} {suite : Addr → Value → Option Addr → WS K E} {m : Nat} {hm : ∀ a c d, (suite a c d).m ≤ m} {self : PySem.W.exmOne K (.ref C) (.ref C) = some true} : (WS.tryAsg j pre post χ' a i C suite m hm self).w χ Γ W = a.w χ Γ fun ds => pre ds ∧ (∀ d, post ds d → W.N (Γ.set j (.dat d))) ∧ ∀ C' fs, χ' ds C' fs → C' = C ∧ ∀ x dx, (suite x (.ref C) (some dx)).w χ (Γ.set i (.dat (.exc x dx (fs.map (·.1)) (fs.map (·.2))))) { N := fun G => W.N (G.set i .un), R := W.R, B := fun G => W.B (G.set i .un), C := fun G => W.C (G.set i .un) } := rfl
end
end DL
set_option maxRecDepth 100000
set_option maxHeartbeats 4000000
/-! DLr: the text that repr gives is one that == may be asked of. -/
namespace DL
open PySem L2 PyProof.Rows
theorem char_lt (c : Char) : c.toNat < 0x110000 := by
  have h := c.valid
  rcases h with h | h
  · exact Nat.lt_trans h (by decide)
  · exact h.2
theorem strOk_list {l : List Nat} (h : ∀ k ∈ l, k < 0x110000) : PyData.strOk ⟨l.toArray⟩ = true := by
  unfold PyData.strOk
  simp only [List.all_toArray, List.all_eq_true]
  exact fun k hk => decide_eq_true (h k hk)
theorem strOk_mem {x : Str} (h : PyData.strOk x = true) : ∀ k ∈ x.cps.toList, k < 0x110000 := by
  unfold PyData.strOk at h
  rw [← Array.all_toList, List.all_eq_true] at h
  exact fun k hk => of_decide_eq_true (h k hk)
theorem strOk_of {x : Str} (h : ∀ k ∈ x.cps.toList, k < 0x110000) : PyData.strOk x = true := by
  unfold PyData.strOk
  rw [← Array.all_toList, List.all_eq_true]
  exact fun k hk => decide_eq_true (h k hk)
theorem strOk_ofString (s : String) : PyData.strOk (Str.ofString s) = true := by
  refine strOk_of fun k hk => ?_
  rw [Str.ofString_eq_toList] at hk
  have hk' : k ∈ s.toList.map Char.toNat := hk
  obtain ⟨c, _, rfl⟩ := List.mem_map.mp hk'
  exact char_lt c
theorem reprChar_ok {q c : Nat} (hc : c < 0x110000) : ∀ k ∈ Builtin.Str.reprChar q c, k < 0x110000 := by
  have hx : ∀ w k, k ∈ List.replicate (w - ((Nat.toDigits 16 c).map Char.toNat).length) 48 ++ (Nat.toDigits 16 c).map Char.toNat → k < 0x110000 := fun w k hk => by
    rcases List.mem_append.mp hk with h | h
    · rw [(List.mem_replicate.mp h).2]; decide
    · obtain ⟨d, _, rfl⟩ := List.mem_map.mp h
      exact char_lt d
  intro k hk
  unfold Builtin.Str.reprChar at hk
  have two : ∀ a b, a < 0x110000 → b < 0x110000 → k ∈ [a, b] → k < 0x110000 := fun a b ha hb h => by
    simp only [List.mem_cons, List.not_mem_nil, or_false] at h
    rcases h with rfl | rfl <;> assumption
  dsimp only at hk
  split at hk
  · exact two _ _ (by decide) hc hk
  split at hk
  · exact two _ _ (by decide) (by decide) hk
  split at hk
  · exact two _ _ (by decide) (by decide) hk
  split at hk
  · exact two _ _ (by decide) (by decide) hk
  split at hk
  · rw [List.mem_singleton.mp hk]; exact hc
  split at hk
  · rcases List.mem_append.mp hk with h | h
    · exact two _ _ (by decide) (by decide) h
    · exact hx _ k h
  split at hk
  · rcases List.mem_append.mp hk with h | h
    · exact two _ _ (by decide) (by decide) h
    · exact hx _ k h
  · rcases List.mem_append.mp hk with h | h
    · exact two _ _ (by decide) (by decide) h
    · exact hx _ k h
theorem foldl_ok (q : Nat) : ∀ (l : List Nat) (acc : Array Nat), (∀ c ∈ l, c < 0x110000) → (∀ c ∈ acc.toList, c < 0x110000) → ∀ c ∈ (l.foldl (fun out c => out ++ (Builtin.Str.reprChar q c).toArray) acc).toList, c < 0x110000
  | [], acc, _, h => h
  | x :: l, acc, hl, h => by
    refine foldl_ok q l _ (fun c hc => hl c (List.mem_cons_of_mem _ hc)) fun c hc => ?_
    rw [Array.toList_append] at hc
    rcases List.mem_append.mp hc with z | z
    · exact h c z
    · exact reprChar_ok (hl x List.mem_cons_self) c z
theorem reprText_ok {x : Str} (h : PyData.strOk x = true) : PyData.strOk (reprText x) = true := by
  have hq : reprQuote x < 0x110000 := by unfold reprQuote; split <;> decide
  refine strOk_of fun k hk => ?_
  unfold reprText at hk
  rw [Array.toList_push, ← Array.foldl_toList] at hk
  rcases List.mem_append.mp hk with z | z
  · exact foldl_ok _ _ _ (strOk_mem h) (fun c hc => by simp at hc; rw [hc]; exact hq) k z
  · rw [List.mem_singleton.mp z]; exact hq
theorem join_ok {s : Str} (hs : PyData.strOk s = true) : ∀ {l : List Str}, (∀ t ∈ l, PyData.strOk t = true) → PyData.strOk (Str.join s l) = true
  | [], _ => by show PyData.strOk Str.empty = true; decide +kernel
  | [x], h => h x (by simp)
  | x :: y :: r, h => strOk_add (strOk_add (h x (by simp)) hs) (join_ok hs fun t ht => h t (List.mem_cons_of_mem _ ht))
mutual
theorem shown_ok : ∀ d : D, d.py.canLay0 = true → PyData.strOk d.py.shown = true
  | .non, _ => strOk_ofString _
  | .bl b, _ => by
    show PyData.strOk (PyData.bool b).shown = true
    rw [PyData.shown_bool]
    cases b <;> exact strOk_ofString _
  | .int i, _ => by
    show PyData.strOk (PyData.int i).shown = true
    rw [PyData.shown_int]; exact strOk_ofString _
  | .str x, h => by
    show PyData.strOk (PyData.str x).shown = true
    rw [PyData.shown_str]; exact reprText_ok h
  | .lst ds, h => by
    show PyData.strOk (PyData.list (D.pys ds)).shown = true
    rw [PyData.shown_list]
    exact strOk_add (strOk_add (strOk_ofString _) (join_ok (strOk_ofString _) (shown_oks ds h))) (strOk_ofString _)
  | .tup ds, h => by
    show PyData.strOk (PyData.tuple (D.pys ds)).shown = true
    rw [PyData.shown_tuple]
    exact strOk_add (strOk_add (strOk_ofString _) (join_ok (strOk_ofString _) (shown_oks ds h))) (strOk_ofString _)
  | .dct _ _, _ => strOk_ofString _
  | .obj _ _ _, _ => strOk_ofString _
  | .exc _ _ _ _, _ => strOk_ofString _
theorem shown_oks : ∀ ds : List D, PyData.canLayAll0 (D.pys ds) = true → ∀ t ∈ PyData.shownAll (D.pys ds), PyData.strOk t = true
  | [], _, t, ht => by
    rw [show D.pys [] = [] from rfl, PyData.shownAll_nil] at ht
    cases ht
  | d :: ds, h, t, ht => by
    have h' := Bool.and_eq_true_iff.mp (show (PyData.canLay0 d.py && PyData.canLayAll0 (D.pys ds)) = true from h)
    rw [show D.pys (d :: ds) = d.py :: D.pys ds from rfl, PyData.shownAll_cons] at ht
    rcases List.mem_cons.mp ht with rfl | z
    · exact shown_ok d h'.1
    · exact shown_oks ds h'.2 t z
end
section
variable {K : PySem.W.Frag} {E : XK} {χ : Xq} {Γ : List Sk} {φ : D → Prop}
/-- a written dict, its keys told -/
structure WDK (K : PySem.W.Frag) (E : XK) (ks : List Key) where
  d : WD K E
  hk : d.ks = ks
def WDK.nil : WDK K E [] := ⟨WD.nil, rfl⟩
def WDK.cons (k : Str) (a : WE K E) {ks : List Key} (r : WDK K E ks) : WDK K E (.inr k :: ks) := ⟨WD.cons k a r.d, by show .inr k :: r.d.ks = _; rw [r.hk]⟩
def WE.dispK {ks : List Key} (a : WDK K E ks) (hn : ks.Nodup) (hl : ks.length ≤ 15) : WE K E := ⟨tDisp a.d.t, a.d.m, fun χ Γ φ => a.d.w χ Γ fun ds => φ (.dct ks ds), fun {p χ Γ φ} h => by
  obtain ⟨d, hk⟩ := a
  subst hk
  exact (WE.disp d hn hl).ok h⟩
theorem w_dispK {ks : List Key} {a : WDK K E ks} {hn : ks.Nodup} {hl : ks.length ≤ 15} : (WE.dispK a hn hl).w χ Γ φ = a.d.w χ Γ fun ds => φ (.dct ks ds) := rfl
theorem w_knil {ξ : List D → Prop} : (WDK.nil (K := K) (E := E)).d.w χ Γ ξ = ξ [] := rfl
theorem w_kcons {k : Str} {a : WE K E} {ks : List Key} {r : WDK K E ks} {ξ : List D → Prop} : (WDK.cons k a r).d.w χ Γ ξ = a.w χ Γ fun d => r.d.w χ Γ fun ds => ξ (d :: ds) := rfl
end
/-! within the suite of a clause the surroundings bear the caught error -/
theorem un66_mark {k : Nat} {A : Around} {x : Option Value} (r : Room k A) : (A.mark x).units + 66 < cLine := by
  have := r.un
  show A.units + 66 < cLine
  omega
theorem un64_mark {k : Nat} {A : Around} {x : Option Value} (r : Room k A) : (A.mark x).units + 64 < cLine := r.units
theorem ng_mark {A : Around} {x : Option Value} (r : NoG A) : NoG (A.mark x) := r
section
variable {K : PySem.W.Frag} {E : XK} {χ : Xq} {Γ : List Sk} {W : Wh}
theorem tryAsg_intro {j : Nat} {pre : List D → Prop} {post : List D → D → Prop} {χ' : List D → Xq} {a : WA K E} {i : Nat} {C : Addr} {suite : Addr → Value → Option Addr → WS K E} {m : Nat} {hm : ∀ a c d, (suite a c d).m ≤ m} {self : PySem.W.exmOne K (.ref C) (.ref C) = some true}
    (h : a.w χ Γ fun ds => pre ds ∧ (∀ d, post ds d → W.N (Γ.set j (.dat d))) ∧ ∀ C' fs, χ' ds C' fs → C' = C ∧ ∀ x dx, (suite x (.ref C) (some dx)).w χ (Γ.set i (.dat (.exc x dx (fs.map (·.1)) (fs.map (·.2))))) { N := fun G => W.N (G.set i .un), R := W.R, B := fun G => W.B (G.set i .un), C := fun G => W.C (G.set i .un) }) :
    (WS.tryAsg j pre post χ' a i C suite m hm self).w χ Γ W := h
end
/-- a promise read at other words for the same slots and posts (the term is a letter here: it is not opened) -/
theorem w_at {K : PySem.W.Frag} {E : XK} (U : WS K E) {χ χ' : Xq} {Γ Γ' : List Sk} {φ φ' : D → Prop} (h : U.w χ Γ (retW φ)) (eχ : χ = χ') (eΓ : Γ = Γ') (eφ : φ = φ') : U.w χ' Γ' (retW φ') := eχ ▸ eΓ ▸ eφ ▸ h
end DL
set_option maxRecDepth 100000
set_option maxHeartbeats 4000000
/-! DLend: what the written part of a law's start tells, made into Def, OwnC and the names of the module. -/
namespace DL
open PySem L2 PyProof.Rows
section
variable {K : PySem.W.Frag} {h : Heap} {mg : Str → Option Value} {x : Str} {st : Stmt} {ps : List Str}
theorem def_mk {f : Addr} {oc : Value} {od an : Option Addr} {osl : Array (Option Value)} {kV doc pm cdv ct : Value} (X : K.In h) (G : h.Ns mainGlobals mg) (a : PySem.W.nsIn K mainGlobals x = some (some (.ref f)))
    (l : K.lookup f = some ⟨oc, od, .func (PySem.W.fnOf x x (defArgs st) (defBody st) (defScope st) .none kV doc pm an cdv ct), osl⟩) (c : PySem.W.codeIn K cdv x = true) (k : PySem.W.keepIn K (.ref f) = true)
    (b : ∀ (kV doc pm : Value) (an : Option Addr) (cdv ct : Value) (us : List Value), us.length = ps.length → bindArgs (PySem.W.fnOf x x (defArgs st) (defBody st) (defScope st) .none kV doc pm an cdv ct) ⟨us, []⟩ = pure (ps.zip us)) : Def K mg x st ps [] :=
  ⟨f, _, [], ⟨⟨oc, od, .none, kV, doc, pm, an, cdv, ct, osl, rfl, l, c⟩, k⟩, PySem.W.mg_of X G a, .all (b kV doc pm an cdv ct), .nil⟩
/-- a def with defaults dvs; a call writes n values -/
theorem def_mkD {f T : Addr} {o : Obj} {its : List Value} {m : Nat} {dvs : List V} (n j : Nat) {oc : Value} {od an : Option Addr} {osl : Array (Option Value)} {kV doc pm cdv ct : Value} (X : K.In h) (G : h.Ns mainGlobals mg) (a : PySem.W.nsIn K mainGlobals x = some (some (.ref f)))
    (l : K.lookup f = some ⟨oc, od, .func (PySem.W.fnOf x x (defArgs st) (defBody st) (defScope st) (.ref T) kV doc pm an cdv ct), osl⟩) (lT : K.lookup T = some o) (c : PySem.W.codeIn K cdv x = true) (k : PySem.W.keepIn K (.ref f) = true)
    (oT : o.data = .seq its.toArray m) (r : Vals dvs its) (hd : dvs ≠ []) (hn : n + (dvs.length - j) = ps.length)
    (b : ∀ (T : Addr) (kV doc pm : Value) (an : Option Addr) (cdv ct : Value) (us its : List Value), us.length = n → its.length = dvs.length →
      ∃ k, bindArgs (PySem.W.fnOf x x (defArgs st) (defBody st) (defScope st) (.ref T) kV doc pm an cdv ct) ⟨us, []⟩ = seqItems? (.ref T) >>= k ∧ k (some its.toArray) = pure (ps.zip (us ++ its.drop j))) : Def K mg x st ps (dvs.drop j) := by
  have F : FunD K x x (defArgs st) (defBody st) (defScope st) dvs [] f (PySem.W.fnOf x x (defArgs st) (defBody st) (defScope st) (.ref T) kV doc pm an cdv ct) :=
    ⟨⟨oc, od, .ref T, kV, doc, pm, an, cdv, ct, osl, rfl, l, c, .inr ⟨hd, T, o, its, m, rfl, lT, oT, r⟩, .inl rfl⟩, k⟩
  obtain ⟨ds, v, bb⟩ := F.binds1 (ps := ps) n j hd hn b
  exact ⟨f, _, ds, ⟨⟨oc, od, .ref T, kV, doc, pm, an, cdv, ct, osl, rfl, l, c⟩, k⟩, PySem.W.mg_of X G a, bb, v⟩
/-- a name of the module that holds a scalar -/
theorem glo_mk {u : Value} {v : V} (X : K.In h) (G : h.Ns mainGlobals mg) (a : PySem.W.nsIn K mainGlobals x = some (some u)) (r : RelV v u) : ∃ u, mg x = some u ∧ RelV v u := ⟨u, PySem.W.mg_of X G a, r⟩
/-- .. that holds a tuple of scalars -/
theorem tup_mk {A : Addr} {od : Option Addr} {its : Array Value} {n : Nat} {osl : Array (Option Value)} {xs : List V} (X : K.In h) (G : h.Ns mainGlobals mg) (a : PySem.W.nsIn K mainGlobals x = some (some (.ref A)))
    (l : K.lookup A = some ⟨.type "tuple", od, .seq its n, osl⟩) (z : its.size ≤ sizeLine) (r : Vals xs its.toList) : ∃ A, (∃ u, mg x = some u ∧ RelV (.ref A) u) ∧ ∀ H, SqT K H A xs :=
  ⟨A, ⟨_, PySem.W.mg_of X G a, rfl⟩, fun H => .inr ⟨_, its, n, l, rfl, rfl, z, r⟩⟩
theorem exm_self {S : Addr} (h1 : PySem.W.subIn K (.ref S) (.type "BaseException") = some true) (h2 : PySem.W.isClsIn K S = true) (h3 : PySem.W.typeIn K (.ref S) = some (.type "type")) (h4 : PySem.W.subIn K (.ref S) (.ref S) = some true) :
    PySem.W.exmOne K (.ref S) (.ref S) = some true := by
  have e1 : (PySem.W.subIn K (.ref S) (.type "BaseException") == some true) = true := by rw [h1] <;> rfl
  have e2 : ((PySem.W.clsIn K S).isSome && PySem.W.typeIn K (.ref S) == some (.type "type")) = true := by
    have h2' : (PySem.W.clsIn K S).isSome = true := h2
    rw [h2', h3] <;> rfl
  show (if (PySem.W.subIn K (.ref S) (.type "BaseException") == some true) = true then (if ((PySem.W.clsIn K S).isSome && PySem.W.typeIn K (.ref S) == some (.type "type")) = true then PySem.W.subIn K (.ref S) (.ref S) else none) else none) = some true
  rw [if_pos e1, if_pos e2]
  exact h4
/-- an own class of errors -/
theorem own_mk {qual : Str} {C fI : Addr} {ns : List Str} {nm q : Str} {N : Addr} {bs bm : List Value} {sn : List Str} {sub : List Value} {ab : Bool} {col : Option Bool} {dd : Option Addr} {m0 m1 m2 m3 m5 : Option Value}
    {oc : Value} {od an : Option Addr} {osl : Array (Option Value)} {kV doc pm cdv ct : Value} (X : K.In h) (G : h.Ns mainGlobals mg) (aC : PySem.W.nsIn K mainGlobals x = some (some (.ref C)))
    (xL : K.lookup C = some (excClassObj nm q C N bs bm true sn sub ab col dd m0 m1 m2 m3 m5 "ValueError.__new__")) (ve : PySem.HandSPX.refsVE bm = true)
    (sa : PySem.W.findIn K (.ref C) "__setattr__" = some (some (.builtin "object.__setattr__"))) (ga : PySem.W.findIn K (.ref C) "__getattribute__" = some (some (.builtin "BaseException.__getattribute__"))) (gg : PySem.W.findIn K (.ref C) "__getattr__" = some none)
    (no : ∀ f ∈ ns, PySem.W.findIn K (.ref C) f = some none) (a1 : PySem.W.findIn K (.ref C) "__init__" = some (some (.ref fI))) (t1 : PySem.W.typeIn K (.ref fI) = some (.type "function"))
    (l : K.lookup fI = some ⟨oc, od, .func (PySem.W.fnOf "__init__" qual (defArgs st) (defBody st) (defScope st) .none kV doc pm an cdv ct), osl⟩) (c : PySem.W.codeIn K cdv qual = true) (k : PySem.W.keepIn K (.ref fI) = true)
    (kC : PySem.W.keepIn K (.ref C) = true) (eC : PySem.W.subIn K (.ref C) (.type "BaseException") = some true) (tC : PySem.W.typeIn K (.ref C) = some (.type "type")) (hC : PySem.W.hasDictIn K C = true) (iC : PySem.W.isClsIn K C = true) (sC : PySem.W.subIn K (.ref C) (.ref C) = some true)
    (b : ∀ (kV doc pm : Value) (an : Option Addr) (cdv ct : Value) (us : List Value), us.length = ps.length → bindArgs (PySem.W.fnOf "__init__" qual (defArgs st) (defBody st) (defScope st) .none kV doc pm an cdv ct) ⟨us, []⟩ = pure (ps.zip us)) :
    ∃ C fI, OwnC K mg x C fI ns ∧ ∃ fd, Fun K "__init__" qual st fI fd ∧ Binds K fd ps [] :=
  ⟨C, fI, ⟨⟨⟨nm, q, N, bs, bm, sn, sub, ab, col, dd, m0, m1, m2, m3, m5, xL, ve⟩, sa, eC, tC, kC⟩, ⟨ga, gg, eC, hC⟩, a1, t1, no, PySem.W.mg_of X G aC, exm_self eC iC tC sC⟩, _, fun_mk l c k, .all (b kV doc pm an cdv ct)⟩
end
section
variable {P : Program} {w : World} {K : PySem.W.Frag} {mg : Str → Option Value} {base : Heap} {x : Str} {k : Nat} {ps N : List Str} {sp : Sp} {st : Stmt} {f : Addr} {fd : FuncData}
theorem fng_raw (F : FunV K x x st f fd) (S : FnScope N ps (defScope st)) (len : ∀ vs H Q E, sp vs H Q E → vs.length = ps.length)
    (hb : ∀ (f : Addr) (cdv : Value) (A : Around) (outer : List Env) (s : Shared) (H : Hp) (vs : List V) (Q : VK) (E : XK), Room k (A.deeper (envOfC x (defScope st) s.heap.objs.size f cdv)) → NoG (A.deeper (envOfC x (defScope st) s.heap.objs.size f cdv)) → sp vs H Q E →
      ∃ t, PSs (cxOf CX0 P w K mg base N x (defScope st) f cdv A outer s H E).nox (defBody st) t ∧ t { nx := fun _ H' => Q .non H', rt := Q } (L2.start N vs) H) : FnG P w K mg base CX0 (k + 1) f fd ps sp :=
  fng_of F S len fun cdv A outer s H vs Q E r ng h => by
    obtain ⟨t, h1, h2⟩ := hb f cdv A outer s H vs Q E r ng h
    exact ⟨t, h1.nox, h2⟩
/-- the law's def -/
theorem law_mk {h : Heap} {fa : Addr} {oc : Value} {od an : Option Addr} {osl : Array (Option Value)} {kV doc pm cdv ct : Value} (X : K.In h) (G : h.Ns mainGlobals mg) (hfa : mg x = some (.ref fa)) (a : PySem.W.nsIn K mainGlobals x = some (some (.ref f)))
    (l : K.lookup f = some ⟨oc, od, .func (PySem.W.fnOf x x (defArgs st) (defBody st) (defScope st) .none kV doc pm an cdv ct), osl⟩) (c : PySem.W.codeIn K cdv x = true) (k : PySem.W.keepIn K (.ref f) = true)
    (b : ∀ (kV doc pm : Value) (an : Option Addr) (cdv ct : Value) (u : Value), bindArgs (PySem.W.fnOf x x (defArgs st) (defBody st) (defScope st) .none kV doc pm an cdv ct) ⟨[u], []⟩ = pure [(("script" : Str), u)]) :
    ∃ fd : FuncData, (∀ (s : Shared) (u : Value), BindsTo s fd ⟨[u], []⟩ [("script", u)]) ∧ FunV K x x st fa fd := by
  have e := hfa.symm.trans (PySem.W.mg_of X G a)
  cases e
  exact ⟨_, fun s u => .of_eq (b kV doc pm an cdv ct u), ⟨oc, od, .none, kV, doc, pm, an, cdv, ct, osl, rfl, l, c⟩, k⟩
end
end DL
set_option maxRecDepth 100000
set_option maxHeartbeats 4000000
/-! DLo: objects of an own class: made, read, compared. -/
namespace DL
open PySem L2 PySem.Spec PyProof.Rows
section
variable {X : Cx} {CX : CXT} {k j : Nat} {C f : Addr} {fd : FuncData} {ps : List Str} {sp : Sp} {x : Str} {p pos : Pos} {e : Expr} {es : List Expr} {t : TA} {ds : List Value} {dvs : List V} {E : XK}
theorem rungM {pins : List (Addr × Obj)} {σ : L2.St} {H : Hp} {s : Shared} {Q : VK} {us : List Value} {vs : List V} (M : Mk X.K C f) (F : FnG X.prog X.w X.K X.mg X.base CX k f fd ps sp) (hr : Room (k + 1) X.A) (ng : NoG X.A) (hb : Binds X.K fd ps []) (hx : PassesAt CX X σ E)
    (I : L2.Inv X pins σ H s) (r : Vals vs us)
    (h : ∀ x dx, H x = none → H dx = none → dx ≠ x → sp (.ref x :: vs) (upd (upd H dx (.own x)) x (.ins C dx [])) (fun v H2 => v = .non ∧ Q (.ref x) H2) E) :
    wpAny (model X.prog X.w) X.A (call (.ref C) us) (EP X pins σ Q) X.xe s := by
  have want := h (s.heap.objs.size + 1) s.heap.objs.size (I.hok.fresh (Nat.le_succ _)) (I.hok.fresh (Nat.le_refl _)) (Nat.ne_of_lt (Nat.lt_succ_self _))
  have I2 := Inv.made (C := C) I
  have both : Vals (V.ref (s.heap.objs.size + 1) :: vs) (Value.ref (s.heap.objs.size + 1) :: us) := .cons rfl r
  have same : (Value.ref (s.heap.objs.size + 1) :: us ++ []).length = ps.length := by
    rw [List.append_nil, ← both.length]; exact F.len _ _ _ _ want
  have bnd := hb _ (Value.ref (s.heap.objs.size + 1) :: us) I2.kIn same
  rw [List.append_nil] at bnd
  refine wpAny_call (make_map (f := f) I.kIn M.makes M.init (beq_iff_eq.mp M.fn) (codeAny_mono (F.run _ (hr.make C us []) ng X.stack _ _ ⟨Value.ref (s.heap.objs.size + 1) :: us, []⟩ (Value.ref (s.heap.objs.size + 1) :: us) _ _ E
    (I2.env0.make C us []) bnd both want) fun res s' got => ?_))
  cases res with
  | error er => exact hx _ _ _ er s' I2 got
  | ok flow => cases flow with
    | ret u =>
      obtain ⟨v, H', I3, rv, ev, q3⟩ := I2.after got
      subst ev
      exact ⟨rv, ⟨V.ref (s.heap.objs.size + 1), H', I3, rfl, q3⟩⟩
    | next => exact got.elim
    | brk => exact got.elim
    | cont => exact got.elim
end
/-! ### self under construction -/
theorem putF_snoc {f : Str} {v : V} : ∀ {ns : List Str} {xs : List V}, ns.length = xs.length → f ∉ ns → putF f v (ns.zip xs) = (ns ++ [f]).zip (xs ++ [v])
  | [], [], _, _ => rfl
  | n :: ns, x :: xs, h, hn => by
    have h' : ns.length = xs.length := by simpa using h
    have hn' : ¬ n = f := fun z => hn (by rw [z]; exact List.mem_cons_self)
    show (if n = f then _ else (n, x) :: putF f v (ns.zip xs)) = _
    rw [if_neg hn', putF_snoc h' fun z => hn (List.mem_cons_of_mem _ z)]
    rfl
section
variable {c : Ct} {Hb Hd0 H0 : Hp} {σ σ' : L2.St} {Γ Γ' : List Sk} {Hd H Hd' H' : Hp} {n n' m : Nat} {i : Nat}
theorem Ok.writeSlf (o : Ok c Hb Hd0 H0 σ Γ Hd H n) {l x C dx : Addr} {ns ns' : List Str} {ds es : List D} {vs : List V} (hi : Γ[i]? = some (.slf x C dx ns ds)) (hs : σ[i]? = some (some (.ref l))) (hl' : ns'.length = vs.length) (r : Reps c.K Hd vs es) :
    Ok c Hb Hd0 H0 σ (Γ.set i (.slf x C dx ns' es)) Hd (upd H l (.ins C dx (ns'.zip vs))) n := by
  obtain ⟨l', ws, e, h1, hz, h2, h3, ne⟩ := o.sr.ok i _ _ hs hi
  cases e
  have hl : i < Γ.length := (List.getElem?_eq_some_iff.mp hi).1
  have f0 := o.fr i _ _ hi rfl hs
  refine ⟨o.b, o.s0, o.g.write f0 h2, ⟨by rw [List.length_set]; exact o.sr.len, fun j o' k q1 q2 => ?_, fun j j' k1 k2 b nj q1 o1 q2 o2 e1 e2 => ?_⟩, o.pe.write ne, fun j k b q1 o1 q3 => ?_⟩
  · by_cases e : i = j
    · subst e
      rw [List.getElem?_set_self hl] at q2; cases q2
      rw [hs] at q1; cases q1
      exact ⟨l, vs, rfl, upd_same, ⟨hl', hz.2⟩, h2, r, ne⟩
    · rw [List.getElem?_set_ne e] at q2
      have old := o.sr.ok j _ _ q1 q2
      cases k with
      | own _ =>
        obtain ⟨l2, w2, e2, b1, b2⟩ := old
        subst e2
        have nl : l2 ≠ l := fun z => by subst z; exact o.sr.ap i j _ _ _ e hi rfl q2 rfl hs q1
        exact ⟨l2, w2, rfl, by rw [upd_ne nl]; exact b1, b2⟩
      | odk _ _ =>
        obtain ⟨l2, w2, e2, b1, b2⟩ := old
        subst e2
        have nl : l2 ≠ l := fun z => by subst z; exact o.sr.ap i j _ _ _ e hi rfl q2 rfl hs q1
        exact ⟨l2, w2, rfl, by rw [upd_ne nl]; exact b1, b2⟩
      | slf _ _ _ _ _ =>
        obtain ⟨l2, w2, e2, b1, b2⟩ := old
        subst e2
        have nl : l2 ≠ l := fun z => by subst z; exact o.sr.ap i j _ _ _ e hi rfl q2 rfl hs q1
        exact ⟨l2, w2, rfl, by rw [upd_ne nl]; exact b1, b2⟩
      | _ => exact old
  · have back : ∀ {j : Nat} {k : Sk}, (Γ.set i (.slf x C dx ns' es))[j]? = some k → k.isOwn = true → ∃ k', Γ[j]? = some k' ∧ k'.isOwn = true := fun {j k} q oq => by
      by_cases e : i = j
      · subst e; exact ⟨_, hi, rfl⟩
      · rw [List.getElem?_set_ne e] at q; exact ⟨_, q, oq⟩
    obtain ⟨k1', a1, b1⟩ := back q1 o1
    obtain ⟨k2', a2, b2⟩ := back q2 o2
    exact o.sr.ap j j' k1' k2' b nj a1 b1 a2 b2 e1 e2
  · by_cases e : i = j
    · subst e
      exact o.fr i _ b hi rfl q3
    · rw [List.getElem?_set_ne e] at q1
      exact o.fr j k b q1 o1 q3
end
def SlfAt (Γ : List Sk) (i : Nat) (ω : Addr → Addr → Addr → List Str → List D → Prop) : Prop := match Γ[i]? with | some (.slf x C dx ns ds) => ω x C dx ns ds | _ => False
@[simp] theorem slfAt_0 {Γ : List Sk} {x C dx : Addr} {ns : List Str} {ds : List D} {ω : Addr → Addr → Addr → List Str → List D → Prop} : SlfAt (.slf x C dx ns ds :: Γ) 0 ω = ω x C dx ns ds := rfl
@[simp] theorem slfAt_s {Γ : List Sk} {s : Sk} {i : Nat} {ω : Addr → Addr → Addr → List Str → List D → Prop} : SlfAt (s :: Γ) (i + 1) ω = SlfAt Γ i ω := rfl
theorem slfAt_get {Γ : List Sk} {i : Nat} {ω : Addr → Addr → Addr → List Str → List D → Prop} (h : SlfAt Γ i ω) : ∃ x C dx ns ds, Γ[i]? = some (.slf x C dx ns ds) ∧ ω x C dx ns ds := by
  unfold SlfAt at h
  split at h
  · rename_i x C dx ns ds e; exact ⟨x, C, dx, ns, ds, e, h⟩
  · exact h.elim
section
variable {K : PySem.W.Frag} {E : XK}
/-- self.f = e in __init__ -/
def WS.fld (i : Nat) (f : Str) (e : WE K E) : WS K E := ⟨sFld K (tVar i) e.t f, e.m, fun χ Γ W => e.w χ Γ fun d => SlfAt Γ i fun x C dx ns ds => Cls K C ∧ NoAttr K C f ∧ f ∉ ns ∧ ns.length < 900 ∧ W.N (Γ.set i (.slf x C dx (ns ++ [f]) (ds ++ [d]))), fun {p χ Γ W} h Hb Hd0 H0 σ Hd H n o l x En k1 k2 k3 k4 => by
  refine e.ok h σ Hd H n o.sr o.g.s o.pe l (x.grow o.g) _ fun v d Hd1 H1 g1 pe1 hS r => ?_
  obtain ⟨y, C, dx, ns, ds, e1, c, na, nf, hn, w⟩ := slfAt_get hS
  have o1 := o.grow g1 pe1
  obtain ⟨o', hs, a, vs, eo, q1, q2, q3, q4, ne⟩ := o1.sr.get e1
  subst eo
  refine ⟨_, hs, a, C, dx, _, rfl, q1, c, na, by rw [List.length_zip]; omega, ?_⟩
  rw [putF_snoc q2.1 nf]
  exact k1 _ _ _ _ w (o1.writeSlf e1 hs (by simp [q2.1]) (q4.append (.cons r .nil)))⟩
theorem w_fld {i : Nat} {f : Str} {e : WE K E} {χ : Xq} {Γ : List Sk} {W : Wh} : (WS.fld i f e).w χ Γ W = e.w χ Γ fun d => SlfAt Γ i fun x C dx ns ds => Cls K C ∧ NoAttr K C f ∧ f ∉ ns ∧ ns.length < 900 ∧ W.N (Γ.set i (.slf x C dx (ns ++ [f]) (ds ++ [d]))) := rfl
/-- o.f of a finished object -/
def WE.fldR (f : Str) (e : WE K E) : WE K E := ⟨tFld K e.t f, e.m, fun χ Γ φ => e.w χ Γ fun x => ∃ C ns ds y, x = .obj C ns ds ∧ Cls K C ∧ NoAttr K C f ∧ lookD ns ds f = some y ∧ φ y, fun {p χ Γ φ} h σ Hd H n s sa pe l x Q q =>
  e.ok h σ Hd H n s sa pe l x _ fun v d' Hd1 H1 g1 pe1 ⟨C, ns, ds, y, e1, c, na, e4, f1⟩ r => by
    subst e1
    cases r with
    | obj h1 h2 h3 =>
      obtain ⟨v, q1, q2⟩ := look_zip h3 e4
      exact ⟨_, _, _, _, v, rfl, g1.s _ _ h1, c, na, q1, q v y Hd1 H1 g1 pe1 f1 q2⟩⟩
theorem w_fldR {f : Str} {e : WE K E} {χ : Xq} {Γ : List Sk} {φ : D → Prop} : (WE.fldR f e).w χ Γ φ = e.w χ Γ fun x => ∃ C ns ds y, x = .obj C ns ds ∧ Cls K C ∧ NoAttr K C f ∧ lookD ns ds f = some y ∧ φ y := rfl
end
/-! ### __init__ and C(..) -/
/-- what __init__ of the class at C, whose fields are ns, keeps -/
def SpNew (K : PySem.W.Frag) (C : Addr) (ns : List Str) (pre : List D → Prop) (post : List D → List D → Prop) (χ : List D → Xq) : Sp := fun vs H Q E => ∃ (x dx : Addr) (ws : List V) (Hd : Hp) (ds : List D), vs = .ref x :: ws ∧ H x = some (.ins C dx []) ∧ Hd x = none ∧ Same Hd H ∧ Reps K Hd ws ds ∧ pre ds ∧
  (∀ (xs : List V) (es : List D) (Hd' H' : Hp), Grow none Hd (del H x) Hd' H' → Hd' x = none → H' x = some (.ins C dx (ns.zip xs)) → ns.length = xs.length → Reps K Hd' xs es → post ds es → Q .non H') ∧
  ∀ C' fx fs Hd' H', Grow none Hd (del H x) Hd' H' → χ ds C' fs → XAt K Hd' H' fx fs → E (.ref C') (some fx) H'
def GS (N : List Str) (x C dx : Addr) (ds : List D) : List Sk := .slf x C dx [] [] :: (ds.map .dat ++ List.replicate (N.length - 1 - ds.length) .un)
theorem GS_own {N : List Str} {x C dx : Addr} {ds : List D} {i : Nat} {k : Sk} (h : (GS N x C dx ds)[i]? = some k) (ho : k.isOwn = true) : i = 0 := by
  cases i with
  | zero => rfl
  | succ i =>
    have h' : (G1 N ds)[i + 1]? = some k := h
    rw [G1_own h'] at ho; cases ho
theorem sr_startS {K : PySem.W.Frag} {x C dx : Addr} {Hd H : Hp} {N : List Str} {vs : List V} {ds : List D} (r : Reps K Hd vs ds) (hx : H x = some (.ins C dx [])) (hd : Hd x = none) : SR K none Hd H (L2.start N (.ref x :: vs)) (GS N x C dx ds) := by
  have hl := r.length
  have e : L2.start N (.ref x :: vs) = some (.ref x) :: L2.start (N.drop 1) vs := by
    unfold L2.start
    simp only [List.map_cons, List.cons_append, List.length_cons, List.length_drop]
    congr 3
    omega
  have e2 : GS N x C dx ds = .slf x C dx [] [] :: G0 (N.drop 1) ds := by unfold GS G0; rw [List.length_drop]
  rw [e, e2]
  have s := sr_start (K := K) (p := none) (Hd := Hd) (H := H) (N := N.drop 1) r
  refine ⟨by rw [List.length_cons, List.length_cons, s.len], fun i o k h1 h2 => ?_, fun i j k1 k2 l ne h1 o1 h2 o2 => ?_⟩
  · cases i with
    | zero => cases h1; cases h2; exact ⟨x, [], rfl, hx, ⟨rfl, rfl⟩, hd, .nil, by show (none : Option Addr) ≠ some x; simp⟩
    | succ i => exact s.ok i o k h1 h2
  · cases i with
    | zero => cases j with
      | zero => exact absurd rfl ne
      | succ j => rw [G0_own (show (G0 (N.drop 1) ds)[j]? = some k2 from h2)] at o2; cases o2
    | succ i => rw [G0_own (show (G0 (N.drop 1) ds)[i]? = some k1 from h1)] at o1; cases o1
section
variable {P : Program} {w : World} {K : PySem.W.Frag} {mg : Str → Option Value} {base : Heap} {qual : Str} {st : Stmt} {fI C : Addr} {fd : FuncData} {N ps ns : List Str} {k : Nat} {pre : List D → Prop} {post : List D → List D → Prop} {χ : List D → Xq}
theorem fnNew (T : ∀ E : XK, WS K E) (F : FunV K "__init__" qual st fI fd) (S : FnScope N ps (defScope st)) (hl : ∀ ds, pre ds → ds.length + 1 = ps.length)
    (hb : ∀ (f : Addr) (cdv : Value) (A : Around) (outer : List Env) (s : Shared) (H : Hp) (E : XK), Room k (A.deeper (envOfC qual (defScope st) s.heap.objs.size f cdv)) → NoG (A.deeper (envOfC qual (defScope st) s.heap.objs.size f cdv)) →
      ∃ t, PSs (cxOf (L2.CX P w) P w K mg base N qual (defScope st) f cdv A outer s H E) (defBody st) t ∧ t = (T E).t) (hm : ∀ E, (T E).m = 0)
    (hw : ∀ E x dx ds, pre ds → (T E).w (χ ds) (GS N x C dx ds) { N := fun G => ∃ es, G[0]? = some (.slf x C dx ns es) ∧ post ds es, R := fun _ => False, B := fun _ => False, C := fun _ => False }) : FnG P w K mg base (L2.CX P w) (k + 1) fI fd ps (SpNew K C ns pre post χ) := by
  refine fng_of F S (fun vs H Q E h => ?_) (fun cdv A outer s H vs Q E hr ng h => ?_)
  · obtain ⟨x, dx, ws, Hd, ds, rfl, _, _, _, r, hp, _⟩ := h
    rw [List.length_cons, r.length, hl ds hp]
  · obtain ⟨x, dx, ws, Hd, ds, rfl, hx, hdx, sa, r, hp, q, qx⟩ := h
    have sd : Same Hd (del H x) := fun b o e => by
      have nb : b ≠ x := fun z => by subst z; rw [hdx] at e; cases e
      rw [del_ne nb]; exact sa _ _ e
    have g0 : Grow none Hd (del H x) Hd H := ⟨Same.refl _, fun b o _ e => by
      by_cases z : b = x
      · subst z; rw [del_same] at e; cases e
      · rw [del_ne z] at e; exact e, sa, fun _ _ z => z, fun b e => by
      by_cases z : b = x
      · subst z; rw [hx]; exact fun y => nomatch y
      · rw [del_ne z] at e; exact e⟩
    refine ⟨(T E).t, (hb fI cdv A outer s H E hr ng).elim fun t h => h.2 ▸ h.1, (T E).ok (p := none) (χ := χ ds) (hw E x dx ds hp) Hd Hd (del H x) _ Hd H 0 ⟨Same.refl _, sd, g0, sr_startS r hx hdx, True.intro, fun i k' l h1 h2 h3 => ?_⟩ (by rw [hm E]; decide) (fun C' fx fs Hd' H' g hh xa => qx C' fx fs Hd' H' g hh xa) _ ?_ ?_ ?_ ?_⟩
    · have e0 := GS_own h1 h2
      subst e0
      have e1 : (L2.start N (.ref x :: ws))[0]? = some (some (.ref x)) := rfl
      rw [e1] at h3
      cases h3
      exact del_same
    · intro Γ' σ' Hd' H' hN o
      obtain ⟨es, e1, hp'⟩ := hN
      obtain ⟨o', hs, a, vs, eo, q1, q2, q3, q4, ne⟩ := o.sr.get e1
      obtain ⟨q2, rfl⟩ := q2
      exact q vs es Hd' H' o.g q3 q1 q2 q4 hp'
    · intro _ _ _ _ z; exact z.elim
    · intro _ _ _ _ z; exact z.elim
    · intro v d Hd' H' z; exact z.elim
end
/-- a class that may be made by its name -/
structure MakX (P : Program) (w : World) (K : PySem.W.Frag) (mg : Str → Option Value) (base : Heap) (x : Str) (k : Nat) (C : Addr) (sp : Sp) : Prop where
  ex : ∃ f fd ps, Mk K C f ∧ FnG P w K mg base (L2.CX P w) k f fd ps sp ∧ mg x = some (.ref C) ∧ Binds K fd ps []
def tMakeSD (C : Addr) (sp : Sp) (E : L2.St → XK) (t : TA) : TE := fun σ H Q => t σ H fun vs H1 => ∀ x dx, H1 x = none → H1 dx = none → dx ≠ x → sp (.ref x :: vs) (upd (upd H1 dx (.own x)) x (.ins C dx [])) (fun v H2 => v = .non ∧ Q (.ref x) H2) (E σ)
theorem peg_makX {X : Cx} {k j : Nat} {C : Addr} {sp : Sp} {x : Str} {p pos : Pos} {e : Expr} {es : List Expr} {t : TA} {W : WX} (M : MakX X.prog X.w X.K X.mg X.base x j C sp) (hr : Room k X.A) (hj : j + 1 ≤ k) (ng : NoG X.A) (hg : Gl X x) (tk : Takes X W) (ha : PA X (e :: es) t)
    (h1 : (x == ("__debug__" : Str)) = false := by decide) (h2 : starEach (e :: es) X.env = (false, eval e X.env) :: starEach es X.env := by rfl) (h3 : (backTo pos (starEach es X.env)).any (·.1) = false := by rfl) : PE X (.Call (.Name x p) (e :: es) [] pos) (tMakeSD C sp (L2.WE W) t) := by
  obtain ⟨f, fd, ps, m, F, hm, hb⟩ := M.ex
  refine ⟨fun pins s σ H Q I h => ?_⟩
  refine wpAny_Call_Name_kw (ld_glob I hg hm ?_ h1)
  refine PySem.W.callWith_K (h₀ := X.base) I.ok.mod.kin m.kp (thn (ha.run pos pins s σ H _ I h) fun us s1 ⟨vs, H1, I1, r, q⟩ => ⟨I1.kIn, ?_⟩) h2 h3
  exact rungM m F (hr.mono hj) ng hb (passAt tk σ) I1 r q
theorem Grow.onto {p : Option Addr} {Hd H H1 Hd' H' : Hp} (sa : Same Hd H) (e : Same H H1) (g : Grow none Hd H1 Hd' H') : Grow p Hd H Hd' H' :=
  ⟨g.d, fun b o _ z => g.h b o (by simp) (e _ _ z), g.s, fun a n z => g.f a (fun y => by
    cases q : H a with
    | none => exact n q
    | some o => rw [e _ _ q] at y; cases y) z, fun a n => g.m a fun y => by
    cases q : H a with
    | none => exact n q
    | some o => rw [e _ _ q] at y; cases y⟩
section
variable {K : PySem.W.Frag} {E : XK}
/-- C(..), C an own class: may raise -/
def WE.mkX (C : Addr) (ns : List Str) (pre : List D → Prop) (post : List D → List D → Prop) (χ' : List D → Xq) (a : WA K E) : WE K E := ⟨tMakeSD C (SpNew K C ns pre post χ') (fun _ => E) a.t, a.m, fun χ Γ φ => a.w χ Γ fun ds => pre ds ∧ (∀ es, post ds es → φ (.obj C ns es)) ∧ ∀ C' fs, χ' ds C' fs → χ C' fs, fun {p χ Γ φ} h σ Hd H n s sa pe l x Q q => by
  refine a.ok h σ Hd H n s sa pe l x _ fun vs ds Hd1 H1 g1 pe1 ⟨f1, f2, f3⟩ r y dx hy hdx hne => ?_
  have hd1 : Hd1 y = none := g1.s.free hy
  have up : Same H1 (upd (upd H1 dx (.own y)) y (.ins C dx [])) := fun b o e => by rw [upd_ne (ne_of_none e hy), upd_ne (ne_of_none e hdx)]; exact e
  have upd' : Same H1 (del (upd (upd H1 dx (.own y)) y (.ins C dx [])) y) := fun b o e => by rw [del_ne (ne_of_none e hy)]; exact up _ _ e
  refine ⟨y, dx, vs, Hd1, ds, rfl, upd_same, hd1, g1.s.trans up, r, f1, fun xs es Hd' H' g hn hx hl rx hp => ⟨rfl, ?_⟩, fun C' fx fs Hd' H' g hh xa => ?_⟩
  · have G0 : Grow none Hd1 H1 Hd' H' := Grow.onto g1.s upd' g
    have me : Same Hd' (L2.upd Hd' y (.ins C dx (ns.zip xs))) := fun b o e => by rw [upd_ne (ne_of_none e hn)]; exact e
    have G : Grow none Hd1 H1 (L2.upd Hd' y (.ins C dx (ns.zip xs))) H' := ⟨G0.d.trans me, G0.h, fun b o e => by
      by_cases z : b = y
      · subst z; rw [upd_same] at e; cases e; exact hx
      · rw [upd_ne z] at e; exact G0.s _ _ e, fun a n z => by
      have na : a ≠ y := fun w => by subst w; exact n hy
      rw [upd_ne na]; exact G0.f a n z, G0.m⟩
    exact q _ _ _ H' (g1.trans G.up) (pe1.grow G) (f2 es hp) (.obj upd_same hl (rx.mono me))
  · exact x C' fx fs Hd' H' (g1.trans (Grow.onto g1.s upd' g)) (f3 C' fs hh) xa⟩
theorem w_mkX {C : Addr} {ns : List Str} {pre : List D → Prop} {post : List D → List D → Prop} {χ' : List D → Xq} {a : WA K E} {χ : Xq} {Γ : List Sk} {φ : D → Prop} : (WE.mkX C ns pre post χ' a).w χ Γ φ = a.w χ Γ fun ds => pre ds ∧ (∀ es, post ds es → φ (.obj C ns es)) ∧ ∀ C' fs, χ' ds C' fs → χ C' fs := rfl
end
/-! ### == by an own __eq__ -/
structure EqC (K : PySem.W.Frag) (C f : Addr) : Prop where
  eq : PySem.W.findIn K (.ref C) "__eq__" = some (some (.ref f))
  fn : PySem.W.isFn K (.ref f) = true
  it : PySem.W.subIn K (.type "int") (.ref C) = some false
  tt : PySem.W.subIn K (.type "tuple") (.ref C) = some false
/-- what may stand beside an object of the class: an int, an object of the class, a tuple -/
def YOk (K : PySem.W.Frag) (C : Addr) (H : Hp) (y : V) : Prop := (∃ i, y = .int i) ∨ (∃ b dy gs, y = .ref b ∧ H b = some (.ins C dy gs)) ∨ ∃ b xs, y = .ref b ∧ SqT K H b xs
def rEqO (K : PySem.W.Frag) (C : Addr) (sp : Sp) : R2 := fun x y H Q => ∃ a dx fs, x = .ref a ∧ H a = some (.ins C dx fs) ∧ YOk K C H y ∧ sp [x, y] H (fun v H' => (∃ b, v = .bl b) ∧ Q v H') L2.E0
section
variable {X : Cx} {C f : Addr} {k : Nat} {fd : FuncData} {ps : List Str} {sp : Sp}
theorem yType (M : EqC X.K C f) {pins : List (Addr × Obj)} {σ : L2.St} {H : Hp} {s : Shared} {y : V} {u : Value} (I : L2.Inv X pins σ H s) (hy : YOk X.K C H y) (r : RelV y u) : ∃ tb, PySem.W.Looks (model X.prog X.w) s.heap (typeOf u) tb ∧ PySem.W.notFirst X.K C tb = true := by
  rcases hy with ⟨i, rfl⟩ | ⟨b, dy, gs, rfl, hb⟩ | ⟨b, xs, rfl, hb⟩
  · obtain ⟨t, rfl⟩ := r
    exact ⟨.type "int", .of_pure rfl, by unfold PySem.W.notFirst; rw [M.it]; simp⟩
  · cases r
    obtain ⟨mB, J, _⟩ := ins_get I.hok hb
    obtain ⟨od, J, _⟩ := J.look
    exact ⟨.ref C, J.type, by simp [PySem.W.notFirst]⟩
  · cases r
    obtain ⟨its, _, ⟨o, ho, hc, _⟩, _⟩ := I.tuple hb
    exact ⟨.type "tuple", (PySem.W.Looks.ld ho).andThen (by rw [hc]; exact .now), by unfold PySem.W.notFirst; rw [M.tt]; simp⟩
theorem op_eqO (M : EqC X.K C f) (F : FnG X.prog X.w X.K X.mg X.base CX0 k f fd ps sp) (hr : Room k X.A) (ng : NoG X.A) (hb : Binds X.K fd ps []) : OpR X (compareOp .Eq) (rEqO X.K C sp) := by
  intro pins s σ H x y v u Q I rx ry hq
  obtain ⟨a, dx, fs, rfl, ha, hy, want⟩ := hq
  cases rx
  obtain ⟨mA, J, _⟩ := ins_get I.hok ha
  obtain ⟨od, J, _⟩ := J.look
  obtain ⟨m, hF⟩ := I.fr
  obtain ⟨tb, t1, t2⟩ := yType M I hy ry
  have both : Vals [V.ref a, y] [Value.ref a, u] := .cons rfl (.cons ry .nil)
  have same : ([Value.ref a, u] ++ []).length = ps.length := by
    rw [List.append_nil, ← both.length]; exact F.len _ _ _ _ want
  have bnd := hb s [Value.ref a, u] I.kIn same
  rw [List.append_nil] at bnd
  show wpAny (model X.prog X.w) X.A (richCompare .Eq (.ref a) u) (EP X pins σ Q) X.xe s
  refine PySem.W.cmp_K (op := .Eq) (tb := tb) hr.units0 hF I.ok.mod.kin J t1 t2 M.eq M.fn ?_
  refine wpAny_call (codeAny_mono (F.run X.A hr ng X.stack s H ⟨[.ref a, u], []⟩ _ _ _ L2.E0 I.env0 bnd both want) fun res s' got => ?_)
  cases res with
  | error er => exact pass0 pins σ H s er s' I got
  | ok flow => cases flow with
    | ret w =>
      obtain ⟨z, H', I', rz, ⟨b, ez⟩, q⟩ := I.after got
      subst ez
      cases rz
      exact ⟨.bl b, H', I', rfl, q⟩
    | next => exact got.elim
    | brk => exact got.elim
    | cont => exact got.elim
end
/-- the class has no __ne__ of its own -/
structure NeC (K : PySem.W.Frag) (C f : Addr) : Prop where
  ex : ∃ (nm q : Str) (N : Addr) (bs : List Value) (hdct : Bool) (sn : List Str) (sub : List Value) (ab : Bool) (col : Option Bool) (dd : Option Addr) (k0 k1 k2 k3 k5 : Option Value) (newId : String) (es : Array DictEntry) (ep : Nat) (on : Obj),
    K.lookup C = some (excClassObj nm q C N bs [.type "object"] hdct sn sub ab col dd k0 k1 k2 k3 k5 newId) ∧ K.lookup N = some on ∧ on.data = .dict es ep ∧ StrKeys es ∧ nsFind es "__eq__" = some (.ref f) ∧ nsFind es "__ne__" = none
  fn : ∃ of, K.lookup f = some of ∧ of.cls = .type "function"
def rNeO (K : PySem.W.Frag) (C : Addr) (sp : Sp) : R2 := fun x y H Q => ∃ a dx fs b dy gs, x = .ref a ∧ H a = some (.ins C dx fs) ∧ y = .ref b ∧ H b = some (.ins C dy gs) ∧ sp [x, y] H (fun v H' => ∃ b, v = .bl b ∧ Q (.bl (!b)) H') L2.E0
theorem op_neO {X : Cx} {C f : Addr} {k : Nat} {fd : FuncData} {ps : List Str} {sp : Sp} (M : NeC X.K C f) (F : FnG X.prog X.w X.K X.mg X.base CX0 k f fd ps sp) (hr : Room (k + 1) X.A) (ng : NoG X.A) (hb : Binds X.K fd ps []) : OpR X (compareOp .NotEq) (rNeO X.K C sp) := by
  intro pins s σ H x y v u Q I rx ry hq
  obtain ⟨a, dx, fs, b, dy, gs, rfl, ha, rfl, hbb, want⟩ := hq
  cases rx
  cases ry
  obtain ⟨nm, q, N, bs, hdct, sn, sub, ab, col, dd, k0, k1, k2, k3, k5, newId, es, ep, on, lC, lN, dN, sk, eq, ne⟩ := M.ex
  obtain ⟨of, lf, cf⟩ := M.fn
  obtain ⟨mA, J, _⟩ := ins_get I.hok ha
  obtain ⟨od, J, _⟩ := J.look
  obtain ⟨mB, J', _⟩ := ins_get I.hok hbb
  obtain ⟨od', J', _⟩ := J'.look
  have both : Vals [V.ref a, V.ref b] [Value.ref a, Value.ref b] := .cons rfl (.cons rfl .nil)
  have same : ([Value.ref a, Value.ref b] ++ []).length = ps.length := by
    rw [List.append_nil, ← both.length]; exact F.len _ _ _ _ want
  have bnd := hb s [Value.ref a, Value.ref b] I.kIn same
  rw [List.append_nil] at bnd
  have own : s.heap.OwnEqNoNe a C f "object" [.type "object"] := ⟨_, of, nm, q, N, bs, hdct, sn, sub, ab, col, dd, k0, k1, k2, k3, k5, newId, nsFind es, _, J.at_, J.cls, I.kIn _ _ lC, ⟨on, es, ep, I.kIn _ _ lN, dN, sk, fun _ => rfl⟩, eq, I.kIn _ _ lf, cf, PySem.F.cmp_object.mro, by rfl, ne⟩
  refine compareOp_ne_ownEq PySem.F.cmp_object own J'.at_ J'.cls (hu_of hr) ?_
  have e0 : Env0 X.prog X.w X.K X.mg X.base X.A.in1 X.stack s H := by
    have e := I.env0
    exact ⟨e.frames, e.mod, e.bs, e.bsz, e.funs, e.frf, e.hok, e.bare⟩
  refine wpAny_call (codeAny_mono (F.run X.A.in1 hr.in1 ng X.stack s H ⟨[.ref a, .ref b], []⟩ _ _ _ L2.E0 e0 bnd both want) fun res s' got => ?_)
  cases res with
  | error er => exact pass0 pins σ H s er s' I got
  | ok flow => cases flow with
    | ret w =>
      obtain ⟨z, H', I', rz, b, ez, q⟩ := I.after got
      subst ez
      cases rz
      exact ⟨b, rfl, .bl (!b), H', I', rfl, q⟩
    | next => exact got.elim
    | brk => exact got.elim
    | cont => exact got.elim
/-! ### isinstance with an own class -/
structure IsC (K : PySem.W.Frag) (C : Addr) : Prop where
  ty : ∀ (H : Hp) (a dx : Addr) (fs : List (Str × V)), H a = some (.ins C dx fs) → TyOf K H (.ref a) (.ref C)
  kI : PySem.W.kitOne K (.type "int") (.ref C) = some false
  kT : PySem.W.kitOne K (.type "tuple") (.ref C) = some false
theorem kit_self {K : PySem.W.Frag} {C : Addr} : PySem.W.kitOne K (.ref C) (.ref C) = some true := by
  unfold PySem.W.kitOne
  rw [if_pos (by simp)]
/-- an object of the class, an int or a tuple: is it of the class? -/
def isCD (C : Addr) : D → Option Bool
  | .obj C' _ _ => if C' = C then some true else none
  | .int _ => some false
  | .tup _ => some false
  | _ => none
section
variable {K : PySem.W.Frag} {E : XK}
def WE.isC (C : Addr) (I : IsC K C) (a : WE K E) : WE K E := ⟨tCB (rIsi K) (tCons a.t (tCons (tC (.ref C)) tNil)), a.m, fun χ Γ φ => a.w χ Γ fun d => ∃ b, isCD C d = some b ∧ φ (.bl b), fun {p χ Γ φ} h σ Hd H n s sa pe l x Q q =>
  a.ok h σ Hd H n s sa pe l x _ fun v d Hd1 H1 g1 pe1 ⟨b, e, f⟩ r => by
    cases r with
    | @obj _ C' _ _ _ _ h1 h2 h3 =>
      have e' : (if C' = C then some true else none) = some b := e
      split at e'
      · rename_i z; cases e'; subst z
        exact ⟨_, _, _, _, true, rfl, .own _, .base (I.ty _ _ _ _ (g1.s _ _ h1)), kit_self, q _ _ Hd1 H1 g1 pe1 f (.bl _)⟩
      · cases e'
    | int i => cases e; exact ⟨_, _, _, _, false, rfl, .own _, rep_ty g1.s rfl (.int i), I.kI, q _ _ Hd1 H1 g1 pe1 f (.bl _)⟩
    | tup h1 h2 => cases e; exact ⟨_, _, _, _, false, rfl, .own _, rep_ty (d := .tup _) g1.s rfl (.tup h1 h2), I.kT, q _ _ Hd1 H1 g1 pe1 f (.bl _)⟩
    | _ => cases e⟩
theorem w_isC {C : Addr} {I : IsC K C} {a : WE K E} {χ : Xq} {Γ : List Sk} {φ : D → Prop} : (WE.isC C I a).w χ Γ φ = a.w χ Γ fun d => ∃ b, isCD C d = some b ∧ φ (.bl b) := rfl
def eqAble (C : Addr) : D → Bool
  | .obj C' _ _ => decide (C' = C)
  | .int _ => true
  | .tup _ => true
  | _ => false
/-- x == y by x's own __eq__ -/
def O2.eqO (C : Addr) (pre : List D → Prop) (post : List D → D → Prop) : O2 K := ⟨rEqO K C (SpP K pre post), fun x y φ => (∃ ns ds, x = .obj C ns ds) ∧ eqAble C y = true ∧ pre [x, y] ∧ ∀ d, post [x, y] d → (∃ b, d = .bl b) ∧ φ d, fun {p E χ a b φ} h x y Hd H s ra rb Q q => by
  obtain ⟨⟨ns, ds, rfl⟩, hy, hp, hq⟩ := h
  have ra' := ra
  cases ra with
  | obj h1 h2 h3 =>
    refine ⟨_, _, _, rfl, s _ _ h1, ?_, Hd, [.obj C ns ds, b], s, .cons ra' (.cons rb .nil), hp, fun v d Hd' H' g hd r => ?_⟩
    · cases rb with
      | int i => exact .inl ⟨i, rfl⟩
      | obj k1 k2 k3 =>
        have e := of_decide_eq_true (show decide (_ = C) = true from hy)
        subst e
        exact .inr (.inl ⟨_, _, _, rfl, s _ _ k1⟩)
      | tup k1 k2 => exact .inr (.inr ⟨_, _, rfl, same_sqt s k1⟩)
      | _ => cases hy
    · obtain ⟨⟨k, rfl⟩, f⟩ := hq d hd
      cases r
      exact ⟨⟨k, rfl⟩, q _ _ Hd' H' g f (.bl k)⟩⟩
/-- x != y, no __ne__ of its own -/
def O2.neO (C : Addr) (pre : List D → Prop) (post : List D → D → Prop) : O2 K := ⟨rNeO K C (SpP K pre post), fun x y φ => (∃ ns ds, x = .obj C ns ds) ∧ (∃ ns ds, y = .obj C ns ds) ∧ pre [x, y] ∧ ∀ d, post [x, y] d → ∃ b, d = .bl b ∧ φ (.bl (!b)), fun {p E χ a b φ} h x y Hd H s ra rb Q q => by
  obtain ⟨⟨ns, ds, rfl⟩, ⟨ms, es, rfl⟩, hp, hq⟩ := h
  have ra' := ra
  have rb' := rb
  cases ra with
  | obj h1 h2 h3 => cases rb with
    | obj k1 k2 k3 =>
      refine ⟨_, _, _, _, _, _, rfl, s _ _ h1, rfl, s _ _ k1, Hd, [.obj C ns ds, .obj C ms es], s, .cons ra' (.cons rb' .nil), hp, fun v d Hd' H' g hd r => ?_⟩
      obtain ⟨k, rfl, f⟩ := hq d hd
      cases r
      exact ⟨k, rfl, q _ _ Hd' H' g f (.bl _)⟩⟩
theorem q_eqO {C : Addr} {pre : List D → Prop} {post : List D → D → Prop} {x y : D} {φ : D → Prop} : (O2.eqO (K := K) C pre post).w x y φ = ((∃ ns ds, x = .obj C ns ds) ∧ eqAble C y = true ∧ pre [x, y] ∧ ∀ d, post [x, y] d → (∃ b, d = .bl b) ∧ φ d) := rfl
theorem q_neO {C : Addr} {pre : List D → Prop} {post : List D → D → Prop} {x y : D} {φ : D → Prop} : (O2.neO (K := K) C pre post).w x y φ = ((∃ ns ds, x = .obj C ns ds) ∧ (∃ ns ds, y = .obj C ns ds) ∧ pre [x, y] ∧ ∀ d, post [x, y] d → ∃ b, d = .bl b ∧ φ (.bl (!b))) := rfl
end
/-- what the written part says of an own class -/
structure OwnO (K : PySem.W.Frag) (mg : Str → Option Value) (x : Str) (C fI fE : Addr) (ns : List Str) : Prop where
  cl : Cls K C
  na : ∀ f ∈ ns, NoAttr K C f
  mak : Mk K C fI
  m : mg x = some (.ref C)
  eq : EqC K C fE
  ne : NeC K C fE
  is : IsC K C
end DL
set_option maxRecDepth 100000
set_option maxHeartbeats 4000000
/-! DLt: try with several clauses, each with a name for its error. -/
namespace DL
open PySem L2 PySem.Spec PyProof.Rows
/-- what the clauses wish of an error of the body, one behind the other; a clause: class, slot of its name, suite -/
def wSome (K : PySem.W.Frag) (Wo : WX) (En : Ends) : List (Value × Nat × (Addr → Value → Option Addr → TS)) → WX
  | [] => Wo
  | (c, i, ts) :: r => fun cls d σ H => ∃ y, PySem.W.exmOne K cls c = some y ∧
      (y = true → ∀ e, H e = none → ts e cls d { nx := fun σ' H' => En.nx (σ'.set i none) H', rt := En.rt, bk := fun σ' H' => En.bk (σ'.set i none) H', ct := fun σ' H' => En.ct (σ'.set i none) H' } (σ.set i (some (.ref e))) H) ∧ (y = false → wSome K Wo En r cls d σ H)
inductive ClOk (X : Cx) : List ExceptHandler → List (Value × Nat × (Addr → Value → Option Addr → TS)) → Prop
  | nil : ClOk X [] []
  | cons {x n : Str} {c : Value} {i : Nat} {ts : Addr → Value → Option Addr → TS} {st : Stmt} {sts : List Stmt} {np cp : Pos} {hds : List ExceptHandler} {l : List (Value × Nat × (Addr → Value → Option Addr → TS))} (hc : Names X x c) (hi : X.N[i]? = some n) (hl : X.env.kindOf n = some .local)
      (su : ∀ (e : Addr) (oe : Obj) (cls : Value) (d : Option Addr) (pn : List (Addr × Obj)), Zc cls d oe → (∃ vs, oe.data = .fields vs) → PSs (X.suite e ((e, oe) :: pn)) (st :: sts) (ts e cls d)) (r : ClOk X hds l) :
      ClOk X (.ExceptHandler (some (.Name x np)) (some n) (st :: sts) cp :: hds) ((c, i, ts) :: l)
section
variable {X : Cx} {body : List Stmt} {hd : ExceptHandler} {hds : List ExceptHandler} {l : List (Value × Nat × (Addr → Value → Option Addr → TS))} {pos : Pos} {tb : WX → TS} {Wo : WX}
theorem ps_try_someAs (stk : X.stack = X.env :: X.outer) (fra : X.env.frame = some X.env.locals) (nod : X.N.Nodup) (tk : Takes X Wo)
    (tried : ∀ (W : WX) (pn : List (Addr × Obj)) (xe : Value → Shared → Prop), Takes (X.tr pn xe) W → PassesOwn (model X.prog X.w) X.A X.env xe → PSs (X.tr pn xe) body (tb W)) (cl : ClOk X (hd :: hds) l) :
    PS X (.Try body (hd :: hds) [] [] pos) (fun En σ H => tb (wSome X.K Wo En l) En σ H) := by
  refine ⟨fun pins st σ H En Iv wish => ?_⟩
  have okk := Iv.ok
  have frm : X.A.frames = some (X.env :: X.outer) := by rw [okk.frames, stk]
  refine wpAny_Try_except (wpAny_mono ((tried (wSome X.K Wo En l) (X.pn ++ pins) (fun er t1 => wpAny (model X.prog X.w) X.A (noteFrame er X.env) (fun _ t2 => wpAny (model X.prog X.w) X.A (setFlight er none) (fun _ t3 =>
    wpAny (model X.prog X.w) X.A (handleBy er X.env (hd :: hds)) (SP X pins En) X.xe t3) X.xe t2) X.xe t1) (fun u t' got => ?_) PassesOwn.looking).run [] st σ H En (Iv.toTry _) wish) (fun fl t1 hsp => ?_) (fun er t1 z => z))
  · obtain ⟨e, B, tI, pins', σ', H', cls, d, rfl, J', nb, up, sky, na, os, ag, want⟩ := got
    have J : L2.Inv X pins σ' H' tI := J'.ofTry okk
    have sky' : Sky B (X.env :: X.outer) e (Zc cls d) X.env.locals t'.heap := by rw [← stk]; exact sky
    show wpAny _ X.A (noteFrame (.ref e) X.env) _ _ _
    refine Sky.land Zc.steady frm fra sky' fun g3 land3 up3 => ?_
    have K3 : L2.Inv X pins σ' H' { t' with heap := g3 } := J.landed nb land3.1 (up.trans up3) os ag
    obtain ⟨o3, v3, at3, zc3, da3⟩ := land3.there
    have off : e ∉ frs (X.env :: X.outer) := fun mem => by
      obtain ⟨_, o', at', no⟩ := land3.2.2.1.mem mem
      rw [at3] at at'
      cases at'
      exact no _ da3
    have offL : e ≠ X.env.locals := fun z => off (List.mem_filterMap.mpr ⟨X.env, List.mem_cons_self, by rw [fra, z]⟩)
    have offF : e ∉ X.fs := fun mem => by
      obtain ⟨en, inn, eq⟩ := List.mem_filterMap.mp mem
      exact off (List.mem_filterMap.mpr ⟨en, List.mem_cons_of_mem _ inn, eq⟩)
    have T3 := K3.suite at3 da3 na offL offF
    have all : ∀ {hs' : List ExceptHandler} {l' : List (Value × Nat × (Addr → Value → Option Addr → TS))}, ClOk X hs' l' → wSome X.K Wo En l' cls d σ' H' → wpAny (model X.prog X.w) X.A (handleBy (.ref e) X.env hs') (SP X pins En) X.xe { t' with heap := g3 } := by
      intro hs' l' c'
      induction c' with
      | nil =>
        intro out
        refine wpAny_handleBy_nil ?_
        obtain ⟨_, _, _, o4, v4, Tb, oT, ts', at4, zc4, da4, f1, _⟩ := id land3
        unfold PySem.passOn
        refine wpAny_bind (wpAny_field at4 da4 f1 ?_)
        rw [if_neg (show ¬ (Value.ref Tb == Value.none) = true from by simp)]
        have last : wpAny (model X.prog X.w) X.A (setFlight (.ref e) X.env.frame) (fun _ t4 => wpAny (model X.prog X.w) X.A (throw (.ref e) : Sem Flow) (SP X pins En) X.xe t4) X.xe { t' with heap := g3 } := by
          rw [fra]
          exact HandSPX.setFlight_upZ land3 fun g4 at4' up4 => wpAny_throw (tk _ _ ⟨e, B, tI, pins, σ', H', cls, d, rfl, J, nb, (up.trans up3).trans up4, .inr (.inr (by rw [stk]; exact at4')), na, os, ag, out⟩)
        first | exact wpAny_bind (wpAny_pure (wpAny_bind last)) | exact wpAny_bind last
      | @cons x n c i ts s0 sts np cp hs2 l2 hc hi hl su r again =>
        intro w
        obtain ⟨y, ask, yes, no⟩ := w
        refine wpAny_handleBy_cons (codeAny_handlers_test ?_) (fun z => nomatch z)
        have look : PySem.W.Looks (model X.prog X.w) g3 (typeOf (.ref e)) cls := fun _ _ _ t5 kp q5 => wpAny_typeOf_ref (kp _ _ at3) (by rw [zc3.1]; exact q5)
        have fits := PySem.W.exm_one (M := model X.prog X.w) K3.kIn look ask
        have named : ∀ {Q : Value → Shared → Prop} {E : Value → Shared → Prop}, Q c { t' with heap := g3 } → wpAny (model X.prog X.w) (X.A.mark (some (.ref e))) (eval (.Name x np) X.env) Q E { t' with heap := g3 } := fun {Q E} q => by
          obtain ⟨g1, g2, m1 | ⟨m1, m2, m3⟩⟩ := hc
          · exact ld_glob (X := X.suite e ((e, o3) :: (X.pn ++ pins))) T3 g1 m1 q g2
          · exact ld_blt (X := X.suite e ((e, o3) :: (X.pn ++ pins))) T3 g1 m1 m2 q m3 g2
        refine named (fits.here ?_)
        cases y with
        | false => exact again (no rfl)
        | true =>
          refine codeAny_handlers_suite_as (HandSPX.lands_againZ land3 fun g4 land4 up4 => ?_)
          have K4 : L2.Inv X pins σ' H' { t' with heap := g4 } := J.landed nb land4.1 ((up.trans up3).trans up4) os ag
          obtain ⟨o4, v4, at4, zc4, da4⟩ := land4.there
          have T4 := K4.suite at4 da4 na offL offF
          refine store_ok (X := X.suite e ((e, o4) :: (X.pn ++ pins))) (v := .ref e) T4 nod hi (.inl hl) rfl (fun t5 T5 => ?_) (.inr hl)
          refine wpAny_mono ((su e o4 cls d (X.pn ++ pins) zc4 ⟨_, da4⟩).run [] t5 _ H' _ T5 (yes rfl e na)) (fun fl t6 hsp => ?_) (fun _ _ z => z.elim)
          have gone : ∀ {σ6 : L2.St} {H6 : Hp} {Q : Shared → Prop}, L2.Inv (X.suite e ((e, o4) :: (X.pn ++ pins))) [] σ6 H6 t6 → (∀ t7, L2.Inv X pins (σ6.set i none) H6 t7 → Q t7) →
              wpAny (model X.prog X.w) X.A (do bindName X.env n .none; unbindBehindTheSuite X.env n cp) (fun _ t7 => Q t7) X.xe t6 := fun {σ6 H6 Q} T6 q6 => gone_ok (T6.unsuite okk) nod hi hl q6
          cases fl with
          | ret u => obtain ⟨v6, σ6, H6, T6, r6, q6⟩ := hsp; exact gone T6 fun t7 J7 => ⟨_, _, _, J7, r6, q6⟩
          | next => obtain ⟨σ6, H6, T6, q6⟩ := hsp; exact gone T6 fun t7 J7 => ⟨_, _, J7, q6⟩
          | brk => obtain ⟨σ6, H6, T6, q6⟩ := hsp; exact gone T6 fun t7 J7 => ⟨_, _, J7, q6⟩
          | cont => obtain ⟨σ6, H6, T6, q6⟩ := hsp; exact gone T6 fun t7 J7 => ⟨_, _, J7, q6⟩
    exact all cl want
  · cases fl with
    | ret u => obtain ⟨v, σ', H', J', r, q⟩ := hsp; exact ⟨v, σ', H', J'.ofTry okk, r, q⟩
    | next => obtain ⟨σ', H', J', q⟩ := hsp; exact wpAny_execs_nil ⟨σ', H', J'.ofTry okk, q⟩
    | brk => obtain ⟨σ', H', J', q⟩ := hsp; exact ⟨σ', H', J'.ofTry okk, q⟩
    | cont => obtain ⟨σ', H', J', q⟩ := hsp; exact ⟨σ', H', J'.ofTry okk, q⟩
end
/-! ### the bundle -/
structure Cl (K : PySem.W.Frag) (E : XK) where
  c : Value
  i : Nat
  s : Addr → Value → Option Addr → WS K E
section
variable {K : PySem.W.Frag} {E : XK}
def clT (cl : List (Cl K E)) : List (Value × Nat × (Addr → Value → Option Addr → TS)) := cl.map fun q => (q.c, q.i, fun a cls d => (q.s a cls d).t)
/-- what the clauses ask of an error of the class C with the fields fs -/
def ChW (K : PySem.W.Frag) (χ : Xq) (Γ : List Sk) (W : Wh) : List (Cl K E) → Xq
  | [], C, fs => χ C fs
  | q :: r, C, fs => ∃ y, PySem.W.exmOne K (.ref C) q.c = some y ∧
      (y = true → ∀ x dx, (q.s x (.ref C) (some dx)).w χ (Γ.set q.i (.dat (.exc x dx (fs.map (·.1)) (fs.map (·.2))))) { N := fun G => W.N (G.set q.i .un), R := W.R, B := fun G => W.B (G.set q.i .un), C := fun G => W.C (G.set q.i .un) }) ∧ (y = false → ChW K χ Γ W r C fs)
theorem chW_nil {χ : Xq} {Γ : List Sk} {W : Wh} {C : Addr} {fs : List (Str × D)} : ChW (E := E) K χ Γ W [] C fs = χ C fs := rfl
theorem chW_cons {χ : Xq} {Γ : List Sk} {W : Wh} {C : Addr} {fs : List (Str × D)} {q : Cl K E} {r : List (Cl K E)} : ChW K χ Γ W (q :: r) C fs = ∃ y, PySem.W.exmOne K (.ref C) q.c = some y ∧
      (y = true → ∀ x dx, (q.s x (.ref C) (some dx)).w χ (Γ.set q.i (.dat (.exc x dx (fs.map (·.1)) (fs.map (·.2))))) { N := fun G => W.N (G.set q.i .un), R := W.R, B := fun G => W.B (G.set q.i .un), C := fun G => W.C (G.set q.i .un) }) ∧ (y = false → ChW K χ Γ W r C fs) := rfl
theorem chain_ok {p : Pn} {χ : Xq} {Γ : List Sk} {W : Wh} {En : Ends} {Hb Hd0 H0 Hd H : Hp} {σ : L2.St} {n m : Nat} (o : Ok ⟨K, p, E, χ⟩ Hb Hd0 H0 σ Γ Hd H n) (l : n + m ≤ LIM) (x : Xs ⟨K, p, E, χ⟩ Hd0 H0) (k1 : ∀ Γ' σ' Hd' H', W.N Γ' → Ok ⟨K, p, E, χ⟩ Hb Hd0 H0 σ' Γ' Hd' H' (n + m) → En.nx σ' H') (k2 : ∀ Γ' σ' Hd' H', W.B Γ' → Ok ⟨K, p, E, χ⟩ Hb Hd0 H0 σ' Γ' Hd' H' (n + m) → En.bk σ' H')
    (k3 : ∀ Γ' σ' Hd' H', W.C Γ' → Ok ⟨K, p, E, χ⟩ Hb Hd0 H0 σ' Γ' Hd' H' (n + m) → En.ct σ' H') (k4 : ∀ v d Hd' H', W.R d → Grow p.a Hd0 H0 Hd' H' → PenO p (n + m) Hd' H' → Rep K Hd' v d → En.rt v H')
    {C dx : Addr} {fs : List (Str × D)} (xa : XAt K Hd H dx fs) : ∀ {cl : List (Cl K E)}, (∀ q ∈ cl, ∀ a c d, (q.s a c d).m ≤ m) → ChW K χ Γ W cl C fs → wSome K (fun cls d _ H => E cls d H) En (clT cl) (.ref C) (some dx) σ H
  | [], _, f => x C dx fs Hd H o.g f xa
  | q :: r, hm, f => by
    obtain ⟨y, f1, f2, f3⟩ := f
    refine ⟨y, f1, fun yt a' ha => ?_, fun yf => chain_ok o l x k1 k2 k3 k4 xa (fun q hq => hm q (List.mem_cons_of_mem _ hq)) (f3 yf)⟩
    obtain ⟨xs, e1, e2⟩ := xa
    have hl : (fs.map (·.1)).length = xs.length := by rw [e2.length, List.length_map, List.length_map]
    have o2 := o.set (i := q.i) (v := .ref a') (d := .exc a' dx (fs.map (·.1)) (fs.map (·.2))) (.exc e1 hl e2)
    have hm' := hm q List.mem_cons_self a' (.ref C) (some dx)
    refine (q.s a' (.ref C) (some dx)).ok (f2 yt a' dx) Hb Hd0 H0 _ _ _ _ o2 (by omega) x _ ?_ ?_ ?_ ?_
    · intro Γ' σ' Hd' H' f o3; exact k1 _ _ _ _ f (o3.unset.more (by omega))
    · intro Γ' σ' Hd' H' f o3; exact k2 _ _ _ _ f (o3.unset.more (by omega))
    · intro Γ' σ' Hd' H' f o3; exact k3 _ _ _ _ f (o3.unset.more (by omega))
    · intro v d Hd' H' f g pe r; exact k4 _ _ _ _ f g (pe.more (by omega)) r
theorem make_at {p : Pn} {χ : Xq} {Γ : List Sk} {φ : D → Prop} {ξ : Xq} {C : Addr} {ns : List Str} {pre : List D → Prop} {post : List D → List D → Prop} {χ' : List D → Xq} {a : WA K E} {F : XK}
    (h : a.w χ Γ fun ds => pre ds ∧ (∀ es, post ds es → φ (.obj C ns es)) ∧ ∀ C' fs, χ' ds C' fs → ξ C' fs) {σ : L2.St} {Hd H : Hp} {n : Nat} (s : SR K p Hd H σ Γ) (sa : Same Hd H) (pe : PenO p n Hd H) (l : n + a.m ≤ LIM) (x : Xs ⟨K, p, E, χ⟩ Hd H) {Q : VK}
    (q : ∀ v d Hd' H', Grow p.a Hd H Hd' H' → PenO p (n + a.m) Hd' H' → φ d → Rep K Hd' v d → Q v H') (qx : ∀ C' fx fs Hd' H', Grow p.a Hd H Hd' H' → PenO p (n + a.m) Hd' H' → ξ C' fs → XAt K Hd' H' fx fs → F (.ref C') (some fx) H') :
    tMakeSD C (SpNew K C ns pre post χ') (fun _ => F) a.t σ H Q := by
  refine a.ok h σ Hd H n s sa pe l x _ fun vs ds Hd1 H1 g1 pe1 ⟨f1, f2, f3⟩ r y dx hy hdx hne => ?_
  have free : Hd1 y = none := g1.s.free hy
  have up : Same H1 (upd (upd H1 dx (.own y)) y (.ins C dx [])) := fun b o e => by rw [upd_ne (ne_of_none e hy), upd_ne (ne_of_none e hdx)]; exact e
  have out : Same H1 (del (upd (upd H1 dx (.own y)) y (.ins C dx [])) y) := fun b o e => by rw [del_ne (ne_of_none e hy)]; exact up _ _ e
  refine ⟨y, dx, vs, Hd1, ds, rfl, upd_same, free, g1.s.trans up, r, f1, fun xs es Hd' H' g hn hx hl rx hp => ⟨rfl, ?_⟩, fun C' fx fs Hd' H' g hh xa => ?_⟩
  · have G0 : Grow none Hd1 H1 Hd' H' := Grow.onto g1.s out g
    have me : Same Hd' (L2.upd Hd' y (.ins C dx (ns.zip xs))) := fun b o e => by rw [upd_ne (ne_of_none e hn)]; exact e
    have G : Grow none Hd1 H1 (L2.upd Hd' y (.ins C dx (ns.zip xs))) H' := ⟨G0.d.trans me, G0.h, fun b o e => by
      by_cases z : b = y
      · subst z; rw [upd_same] at e; cases e; exact hx
      · rw [upd_ne z] at e; exact G0.s _ _ e, fun a n z => by
      have na : a ≠ y := fun w => by subst w; exact n hy
      rw [upd_ne na]; exact G0.f a n z, G0.m⟩
    exact q _ _ _ H' (g1.trans G.up) (pe1.grow G) (f2 es hp) (.obj upd_same hl (rx.mono me))
  · exact qx C' fx fs Hd' H' (g1.trans (Grow.onto g1.s out g)) (pe1.grow (Grow.onto g1.s out g)) (f3 C' fs hh) xa
/-- try: x = C(..) except C1 as n: .. except C2 as m: .. -/
def WS.tryMk (j : Nat) (C : Addr) (ns : List Str) (pre : List D → Prop) (post : List D → List D → Prop) (χ' : List D → Xq) (a : WA K E) (cl : List (Cl K E)) (m : Nat) (hm : ∀ q ∈ cl, ∀ a c d, (q.s a c d).m ≤ m) : WS K E :=
  ⟨fun En σ H => tAsg (tMakeSD C (SpNew K C ns pre post χ') (L2.WE (wSome K (fun cls d _ H => E cls d H) En (clT cl))) a.t) (gName j) En σ H, a.m + m,
   fun χ Γ W => a.w χ Γ fun ds => pre ds ∧ (∀ es, post ds es → W.N (Γ.set j (.dat (.obj C ns es)))) ∧ ∀ C' fs, χ' ds C' fs → ChW K χ Γ W cl C' fs,
   fun {p χ Γ W} h Hb Hd0 H0 σ Hd H n o l x En k1 k2 k3 k4 => by
    have go : tMakeSD C (SpNew K C ns pre post χ') (fun _ => fun cls d H' => wSome K (fun cls d _ H => E cls d H) En (clT cl) cls d σ H') a.t σ H fun v H' => En.nx (σ.set j (some v)) H' := by
      refine make_at (p := p) (χ := χ) (φ := fun d => W.N (Γ.set j (.dat d))) h o.sr o.g.s o.pe (by omega) (x.grow o.g) (fun v d Hd1 H1 g1 pe1 f r => ?_) fun C' fx fs Hd' H' g pe f xa => ?_
      · exact k1 _ _ _ _ f (((o.grow g1 pe1).set r).more (by omega))
      · exact chain_ok (n := n + a.m) (m := m) (o.grow g pe) (by omega) x (fun _ _ _ _ f o => k1 _ _ _ _ f (o.more (by omega))) (fun _ _ _ _ f o => k2 _ _ _ _ f (o.more (by omega))) (fun _ _ _ _ f o => k3 _ _ _ _ f (o.more (by omega))) (fun _ _ _ _ f g pe r => k4 _ _ _ _ f g (pe.more (by omega)) r) xa hm f
    exact go⟩
theorem w_tryMk {j : Nat} {C : Addr} {ns : List Str} {pre : List D → Prop} {post : List D → List D → Prop} {χ' : List D → Xq} {a : WA K E} {cl : List (Cl K E)} {m : Nat} {hm : ∀ q ∈ cl, ∀ a c d, (q.s a c d).m ≤ m} {χ : Xq} {Γ : List Sk} {W : Wh} : (WS.tryMk j C ns pre post χ' a cl m hm).w χ Γ W =
    a.w χ Γ fun ds => pre ds ∧ (∀ es, post ds es → W.N (Γ.set j (.dat (.obj C ns es)))) ∧ ∀ C' fs, χ' ds C' fs → ChW K χ Γ W cl C' fs := rfl
end
end DL
set_option maxRecDepth 100000
set_option maxHeartbeats 4000000
/-! DLl: a local list that is being changed is lent to a call whose answer holds no list. -/
namespace DL
open PySem L2 PySem.Spec PyProof.Rows
mutual
def noLst : D → Bool
  | .lst _ => false
  | .tup ds => noLsts ds
  | .dct _ ds => noLsts ds
  | .obj _ _ ds => noLsts ds
  | .exc _ _ _ ds => noLsts ds
  | _ => true
def noLsts : List D → Bool
  | [] => true
  | d :: ds => noLst d && noLsts ds
end
section
variable {K : PySem.W.Frag} {Hd : Hp} {l : Addr} {ws : List V}
theorem sqt_del {a : Addr} {xs : List V} (hl : Hd l = some (.lst ws)) (h : SqT K Hd a xs) : SqT K (del Hd l) a xs := by
  rcases h with (h | ⟨o, h⟩) | h
  · exact .inl (.inl (by rw [del_ne (fun z => by subst z; rw [hl] at h; cases h)]; exact h))
  · exact .inl (.inr ⟨o, by rw [del_ne (fun z => by subst z; rw [hl] at h; cases h)]; exact h⟩)
  · exact .inr h
mutual
theorem rep_del (hl : Hd l = some (.lst ws)) : ∀ {v : V} {d : D}, noLst d = true → Rep K Hd v d → Rep K (del Hd l) v d
  | _, _, _, .non => .non
  | _, _, _, .bl b => .bl b
  | _, _, _, .int i => .int i
  | _, _, _, .str x => .str x
  | _, _, n, .lst _ _ => by cases n
  | _, _, n, .tup h r => .tup (sqt_del hl h) (reps_del hl n r)
  | _, _, n, .dct h e r => .dct (by rw [del_ne (fun z => by subst z; rw [hl] at h; cases h)]; exact h) e (reps_del hl n r)
  | _, _, n, .obj h e r => .obj (by rw [del_ne (fun z => by subst z; rw [hl] at h; cases h)]; exact h) e (reps_del hl n r)
  | _, _, n, .exc h e r => .exc (by rw [del_ne (fun z => by subst z; rw [hl] at h; cases h)]; exact h) e (reps_del hl n r)
theorem reps_del (hl : Hd l = some (.lst ws)) : ∀ {vs : List V} {ds : List D}, noLsts ds = true → Reps K Hd vs ds → Reps K (del Hd l) vs ds
  | _, _, _, .nil => .nil
  | _, _, n, .cons h r => by
    have n' := Bool.and_eq_true_iff.mp (show (noLst _ && noLsts _) = true from n)
    exact .cons (rep_del hl n'.1 h) (reps_del hl n'.2 r)
end
end
section
variable {c : Ct} {Γ : List Sk} {i m : Nat} {te : TE} {φ : D → Prop}
theorem ev_lend {ds : List D} (hi : Γ[i]? = some (.own ds)) (h : Ev c te (Γ.set i (.dat (.lst ds))) m fun d => noLst d = true ∧ φ d) (hx : ∀ C fs, ¬ c.χ C fs := by intro _ _ z; exact z) : Ev c te Γ m φ := fun σ Hd H n s sa pe l x Q q => by
  obtain ⟨o', hσ, a, vs, e, h1, h2, h3, ne⟩ := s.get hi
  subst e
  have hl : i < Γ.length := (List.getElem?_eq_some_iff.mp hi).1
  have mo : Same Hd (upd Hd a (.lst vs)) := fun b u e => by rw [upd_ne (ne_of_none e h2)]; exact e
  have sa' : Same (upd Hd a (.lst vs)) H := fun b u e => by
    by_cases z : b = a
    · subst z; rw [upd_same] at e; cases e; exact h1
    · rw [upd_ne z] at e; exact sa _ _ e
  have keepO : ∀ {j : Nat} {k : Sk}, (Γ.set i (.dat (.lst ds)))[j]? = some k → k.isOwn = true → i ≠ j ∧ Γ[j]? = some k := fun {j k} q oq => by
    by_cases e : i = j
    · subst e; rw [List.getElem?_set_self hl] at q; cases q; cases oq
    · rw [List.getElem?_set_ne e] at q; exact ⟨e, q⟩
  have s' : SR c.K c.p (upd Hd a (.lst vs)) H σ (Γ.set i (.dat (.lst ds))) := by
    refine ⟨by rw [List.length_set]; exact s.len, fun j o2 k q1 q2 => ?_, fun j j' k1 k2 b nj q1 o1 q2 o2 e1 e2 => s.ap j j' k1 k2 b nj (keepO q1 o1).2 o1 (keepO q2 o2).2 o2 e1 e2⟩
    by_cases e : i = j
    · subst e
      rw [List.getElem?_set_self hl] at q2; cases q2
      rw [hσ] at q1; cases q1
      exact ⟨_, rfl, .lst upd_same (h3.mono mo)⟩
    · rw [List.getElem?_set_ne e] at q2
      have old := s.ok j _ _ q1 q2
      cases k with
      | un => exact True.intro
      | dat d => obtain ⟨v, e1, e2⟩ := old; exact ⟨v, e1, e2.mono mo⟩
      | own _ =>
        obtain ⟨l2, w2, e2, b1, b2, b3, b4⟩ := old
        subst e2
        have nl : l2 ≠ a := fun z => by subst z; exact s.ap i j _ _ _ e hi rfl q2 rfl hσ q1
        exact ⟨l2, w2, rfl, b1, by rw [upd_ne nl]; exact b2, b3.mono mo, b4⟩
      | odk _ _ =>
        obtain ⟨l2, w2, e2, b1, bl, b2, b3, b4⟩ := old
        subst e2
        have nl : l2 ≠ a := fun z => by subst z; exact s.ap i j _ _ _ e hi rfl q2 rfl hσ q1
        exact ⟨l2, w2, rfl, b1, bl, by rw [upd_ne nl]; exact b2, b3.mono mo, b4⟩
      | slf _ _ _ _ _ =>
        obtain ⟨l2, w2, e2, b1, bl, b2, b3, b4⟩ := old
        subst e2
        have nl : l2 ≠ a := fun z => by subst z; exact s.ap i j _ _ _ e hi rfl q2 rfl hσ q1
        exact ⟨l2, w2, rfl, b1, bl, by rw [upd_ne nl]; exact b2, b3.mono mo, b4⟩
      | pen => exact old
  refine h σ _ H n s' sa' (pe.freeze ne h2) l (fun C dx fs Hd' H' g hc _ => absurd hc (hx C fs)) Q fun v d Hd' H' g pe' f r => ?_
  have at_ : Hd' a = some (.lst vs) := g.d _ _ upd_same
  have low : Same Hd (del Hd' a) := fun b u e => by
    have nb := ne_of_none e h2
    rw [del_ne nb]; exact g.d _ _ (mo _ _ e)
  have G : Grow c.p.a Hd H (del Hd' a) H' := ⟨low, g.h, fun b u e => by
    by_cases z : b = a
    · subst z; rw [del_same] at e; cases e
    · rw [del_ne z] at e; exact g.s _ _ e, fun b n0 z => by
    by_cases y : b = a
    · subst y; exact del_same
    · rw [del_ne y]; exact g.f b n0 (by rw [upd_ne y]; exact z), g.m⟩
  refine q v d _ H' G ?_ f.2 (rep_del at_ f.1 r)
  cases hp : c.p with
  | none => exact True.intro
  | some ac =>
    rw [hp] at pe pe'
    obtain ⟨p1, p2, ns, p3, p4⟩ := pe'
    obtain ⟨_, _, ns0, p5, _⟩ := pe
    have nc : ac.2 ≠ a := ne_of_none p5 h2
    refine ⟨p1, ?_, ns, by rw [del_ne nc]; exact p3, p4⟩
    by_cases y : ac.1 = a
    · rw [y]; exact del_same
    · rw [del_ne y]; exact p2
end
section
variable {K : PySem.W.Frag} {E : XK}
/-- slot j = e, where e reads the local list at slot i: the answer holds no list, or the list is data from here on -/
def WS.asgLend (j i : Nat) (e : WE K E) : WS K E := ⟨(WS.asg j (WM.up e)).t, e.m, fun χ Γ W => match Γ[i]? with
  | some (.own ds) => (e.w noX (Γ.set i (.dat (.lst ds))) fun d => noLst d = true ∧ W.N (Γ.set j (.dat d))) ∨ e.w χ (Γ.set i (.dat (.lst ds))) fun d => W.N ((Γ.set i (.dat (.lst ds))).set j (.dat d))
  | _ => e.w χ Γ fun d => W.N (Γ.set j (.dat d)), fun {p χ Γ W} h => by
  split at h
  · rename_i ds hi
    rcases h with h | h
    · intro Hb Hd0 H0 σ Hd H n o l x En k1 k2 k3 k4
      have lent : Ev ⟨K, p, E, noX⟩ e.t Γ e.m fun d => W.N (Γ.set j (.dat d)) := ev_lend hi (e.ok (p := p) h)
      exact lent σ Hd H n o.sr o.g.s o.pe l (fun _ _ _ _ _ _ z => z.elim) _ fun v d Hd1 H1 g1 pe1 f r => k1 _ _ _ _ f ((o.grow g1 pe1).set r)
    · have q : (WS.frz i (WS.asg j (WM.up e))).w χ Γ W := by
        show FrzAt Γ i fun G => (WS.asg j (WM.up e)).w χ G W
        unfold FrzAt
        rw [hi]
        exact h
      exact (WS.frz i (WS.asg j (WM.up e))).ok q
  · exact (WS.asg j (WM.up e)).ok h⟩
def LendAt (Γ : List Sk) (i : Nat) (own : List D → Prop) (els : Prop) : Prop := match Γ[i]? with | some (.own ds) => own ds | _ => els
theorem lendAt_o {Γ : List Sk} {ds : List D} {own : List D → Prop} {els : Prop} : LendAt (.own ds :: Γ) 0 own els = own ds := rfl
theorem lendAt_d {Γ : List Sk} {d : D} {own : List D → Prop} {els : Prop} : LendAt (.dat d :: Γ) 0 own els = els := rfl
theorem lendAt_s {Γ : List Sk} {s : Sk} {i : Nat} {own : List D → Prop} {els : Prop} : LendAt (s :: Γ) (i + 1) own els = LendAt Γ i own els := rfl
theorem w_asgLend {j i : Nat} {e : WE K E} {χ : Xq} {Γ : List Sk} {W : Wh} : (WS.asgLend j i e).w χ Γ W = LendAt Γ i (fun ds => (e.w noX (Γ.set i (.dat (.lst ds))) fun d => noLst d = true ∧ W.N (Γ.set j (.dat d))) ∨ e.w χ (Γ.set i (.dat (.lst ds))) fun d => W.N ((Γ.set i (.dat (.lst ds))).set j (.dat d))) (e.w χ Γ fun d => W.N (Γ.set j (.dat d))) := by
  unfold LendAt
  show (match Γ[i]? with | some (.own ds) => _ | _ => _) = _
  cases h : Γ[i]? with
  | none => rfl
  | some k => cases k <;> rfl
end
section
variable {P : Program} {w : World} {K : PySem.W.Frag} {mg : Str → Option Value} {base : Heap} {x qual : Str} {k : Nat} {ps N : List Str} {st : Stmt} {pre : List D → Prop} {post : List D → D → Prop} {f : Addr} {fd : FuncData}
/-- a method that is pure, by its term -/
theorem fn_W (T : WS K L2.E0) (F : FunV K x qual st f fd) (S : FnScope N ps (defScope st)) (hl : ∀ ds, pre ds → ds.length = ps.length)
    (hb : ∀ (f : Addr) (cdv : Value) (A : Around) (outer : List Env) (s : Shared) (H : Hp) (E : XK), Room k (A.deeper (envOfC qual (defScope st) s.heap.objs.size f cdv)) → NoG (A.deeper (envOfC qual (defScope st) s.heap.objs.size f cdv)) →
      ∃ t, PSs (cxOf CX0 P w K mg base N qual (defScope st) f cdv A outer s H E).nox (defBody st) t ∧ t = T.t) (hm : T.m = 0) (hw : ∀ ds, pre ds → T.w noX (G0 N ds) (retW (post ds))) : FnG P w K mg base CX0 (k + 1) f fd ps (SpP K pre post) :=
  fn_P F S hl fun cdv A outer s H E hr ng ds hp => ⟨T.t, (hb f cdv A outer s H E hr ng).elim fun t h => h.2 ▸ h.1, fun p => (T.ok (hw ds hp)).more (by omega)⟩
theorem w_atS {E : XK} (U : WS K E) {χ χ' : Xq} {Γ Γ' : List Sk} {W W' : Wh} (h : U.w χ Γ W) (eχ : χ = χ') (eΓ : Γ = Γ') (eW : W = W') : U.w χ' Γ' W' := eχ ▸ eΓ ▸ eW ▸ h
end
end DL
set_option maxRecDepth 100000
set_option maxHeartbeats 4000000
/-! DLm: errors of two fields. -/
namespace DL
open PySem L2 PyProof.Rows
/-- class C(Error): def __init__(self, f, g): self.f = f; self.g = g -/
theorem init2_ok {K : PySem.W.Frag} {f g : Str} {vs : List V} {H : Hp} {Q : VK} {E : XK} (h : SpI K [f, g] vs H Q E) : tSeq (tOst K f (tVar 0) (tVar 1)) (tOst K g (tVar 0) (tVar 2)) { nx := fun _ H' => Q .non H', rt := Q } (L2.start ["self", "x", "y"] vs) H := by
  obtain ⟨a, C, ws, rfl, hl, T, no, ha, q⟩ := h
  match ws, hl with
  | [y, z], _ =>
    refine ⟨_, rfl, _, rfl, a, C, rfl, T, no f (by simp), .inl ⟨ha, fun dx h1 h2 => ?_⟩⟩
    refine ⟨_, rfl, _, rfl, a, C, rfl, T, no g (by simp), .inr ⟨dx, [(f, y)], upd_same, by rw [upd_ne h2]; exact upd_same, (by show 1 ≤ 900; decide), ?_⟩⟩
    refine q dx _ h1 h2 (by rw [upd_ne h2.symm]; exact upd_same) upd_same fun b n1 n2 => ?_
    rw [upd_ne n2, upd_ne n1, upd_ne n2]
theorem init2_fn {P : Program} {w : World} {K : PySem.W.Frag} {mg : Str → Option Value} {base : Heap} {qual f g : Str} {st : Stmt} {fI : Addr} {fd : FuncData} {N ps : List Str} (F : Fun K "__init__" qual st fI fd) (S : FnScope N ps (defScope st)) (hN : N.length = 3) (hp : ps.length = 3)
    (hb : ∀ (cdv : Value) (A : Around) (outer : List Env) (s : Shared) (H : Hp) (E : XK), PSs (cxOf CX0 P w K mg base N qual (defScope st) fI cdv A outer s H E).nox (defBody st) (tSeq (tOst K f (tVar 0) (tVar 1)) (tOst K g (tVar 0) (tVar 2)))) : FnOk P w K mg base CX0 1 fI fd ps (SpI K [f, g]) :=
  F.ok (k := 0) S (fun vs H Q E h => by obtain ⟨a, C, ws, rfl, hl, _⟩ := h; rw [List.length_cons, hl, hp]; rfl) fun cdv A outer s H vs Q E hr h => ⟨_, hb cdv A outer s H E, by
    have e := init2_ok h (E := E)
    obtain ⟨a, C, ws, rfl, hl, _⟩ := h
    have e2 : L2.start N (.ref a :: ws) = L2.start ["self", "x", "y"] (.ref a :: ws) := by
      unfold L2.start
      rw [hN]; rfl
    rw [e2]; exact e⟩
end DL
set_option maxRecDepth 100000
set_option maxHeartbeats 4000000
/-! DLq: a slot that holds a local list on one way and data on another. -/
namespace DL
open PySem L2 PySem.Spec PyProof.Rows
section
variable {K : PySem.W.Frag} {E : XK}
/-- a test of a list that may be local -/
def WE.borrowD (i : Nat) (a : WE K E) : WE K E := ⟨a.t, a.m, fun χ Γ φ => match Γ[i]? with | some (.own ds) => a.w noX (Γ.set i (.dat (.lst ds))) fun d => scalar d = true ∧ φ d | _ => a.w χ Γ φ, fun {p χ Γ φ} h => by
  split at h
  · rename_i ds e
    have q := ev_borrow (c := ⟨K, p, E, noX⟩) e (a.ok h) (fun d f => f.1) (fun _ _ z => z)
    exact fun σ Hd H n s sa pe l x Q k => q σ Hd H n s sa pe l (fun _ _ _ _ _ _ z _ => z.elim) Q fun v d Hd' H' g pe' f r => k v d Hd' H' g pe' f.2 r
  · exact a.ok h⟩
theorem w_borrowD {i : Nat} {a : WE K E} {χ : Xq} {Γ : List Sk} {φ : D → Prop} : (WE.borrowD i a).w χ Γ φ = LendAt Γ i (fun ds => a.w noX (Γ.set i (.dat (.lst ds))) fun d => scalar d = true ∧ φ d) (a.w χ Γ φ) := by
  unfold LendAt
  show (match Γ[i]? with | some (.own ds) => _ | _ => _) = _
  cases h : Γ[i]? with
  | none => rfl
  | some k => cases k <;> rfl
/-- x = list(a) if t else b, x being changed later -/
def WS.asgIteL (j : Nat) (t : WT K E) (a b : WE K E) : WS K E := ⟨(WS.asg j (WM.up (WE.ite t (WE.cb ON.list (WA.cons a WA.nil)) b))).t, t.m + (a.m + b.m), fun χ Γ W => t.w χ Γ fun k => (k = true → a.w χ Γ fun d => ∃ ds, d.its = some ds ∧ W.N (Γ.set j (.own ds))) ∧ (k = false → b.w χ Γ fun d => W.N (Γ.set j (.dat d))), fun {p χ Γ W} h Hb Hd0 H0 σ Hd H n o l x En k1 k2 k3 k4 => by
  refine t.ok h σ Hd H n o.sr o.g.s o.pe (by omega) (x.grow o.g) _ fun k Hd1 H1 g1 pe1 f => ?_
  have o1 := o.grow g1 pe1
  cases k with
  | true =>
    refine a.ok (f.1 rfl) σ Hd1 H1 _ o1.sr o1.g.s o1.pe (by omega) (x.grow o1.g) _ fun v d Hd2 H2 g2 pe2 ⟨ds, e, w⟩ r => ?_
    have o2 := o1.grow g2 pe2
    have fin : ∀ (ys : List V) (q : Addr), Reps K Hd2 ys ds → H2 q = none → En.nx (σ.set j (some (.ref q))) (upd H2 q (.lst ys)) := fun ys q r hq => k1 _ _ _ _ w ((o2.newOwn (i := j) hq r).more (by omega))
    cases r with
    | tup h1 r => cases e; exact ⟨_, _, rfl, .inr (same_sqt o2.g.s h1), fun q hq => fin _ q r hq⟩
    | lst h1 r => cases e; exact ⟨_, _, rfl, .inl (SqL.of (o2.g.s _ _ h1)), fun q hq => fin _ q r hq⟩
    | _ => cases e
  | false =>
    refine b.ok (f.2 rfl) σ Hd1 H1 _ o1.sr o1.g.s o1.pe (by omega) (x.grow o1.g) _ fun v d Hd2 H2 g2 pe2 w r => ?_
    exact k1 _ _ _ _ w (((o1.grow g2 pe2).set r).more (by omega))⟩
theorem w_asgIteL {j : Nat} {t : WT K E} {a b : WE K E} {χ : Xq} {Γ : List Sk} {W : Wh} : (WS.asgIteL j t a b).w χ Γ W = t.w χ Γ fun k => (k = true → a.w χ Γ fun d => ∃ ds, d.its = some ds ∧ W.N (Γ.set j (.own ds))) ∧ (k = false → b.w χ Γ fun d => W.N (Γ.set j (.dat d))) := rfl
end
end DL
set_option maxRecDepth 100000
set_option maxHeartbeats 4000000
/-! DLz: the facts of classes at a law's start, handed on (the addresses stay as they are). -/
namespace DL
open PySem L2 PyProof.Rows
section
variable {K : PySem.W.Frag} {h : Heap} {mg : Str → Option Value} {x y : Str} {st : Stmt} {ps : List Str} {goal : Prop}
theorem own_then {qual : Str} {C fI : Addr} {ns : List Str} {nm q : Str} {N : Addr} {bs bm : List Value} {sn : List Str} {sub : List Value} {ab : Bool} {col : Option Bool} {dd : Option Addr} {m0 m1 m2 m3 m5 : Option Value}
    {oc : Value} {od an : Option Addr} {osl : Array (Option Value)} {kV doc pm cdv ct : Value} (X : K.In h) (G : h.Ns mainGlobals mg) (aC : PySem.W.nsIn K mainGlobals x = some (some (.ref C)))
    (xL : K.lookup C = some (excClassObj nm q C N bs bm true sn sub ab col dd m0 m1 m2 m3 m5 "ValueError.__new__")) (ve : PySem.HandSPX.refsVE bm = true)
    (sa : PySem.W.findIn K (.ref C) "__setattr__" = some (some (.builtin "object.__setattr__"))) (ga : PySem.W.findIn K (.ref C) "__getattribute__" = some (some (.builtin "BaseException.__getattribute__"))) (gg : PySem.W.findIn K (.ref C) "__getattr__" = some none)
    (no : ∀ f ∈ ns, PySem.W.findIn K (.ref C) f = some none) (a1 : PySem.W.findIn K (.ref C) "__init__" = some (some (.ref fI))) (t1 : PySem.W.typeIn K (.ref fI) = some (.type "function"))
    (l : K.lookup fI = some ⟨oc, od, .func (PySem.W.fnOf "__init__" qual (defArgs st) (defBody st) (defScope st) .none kV doc pm an cdv ct), osl⟩) (c : PySem.W.codeIn K cdv qual = true) (k : PySem.W.keepIn K (.ref fI) = true)
    (kC : PySem.W.keepIn K (.ref C) = true) (eC : PySem.W.subIn K (.ref C) (.type "BaseException") = some true) (tC : PySem.W.typeIn K (.ref C) = some (.type "type")) (hC : PySem.W.hasDictIn K C = true) (iC : PySem.W.isClsIn K C = true) (sC : PySem.W.subIn K (.ref C) (.ref C) = some true)
    (b : ∀ (kV doc pm : Value) (an : Option Addr) (cdv ct : Value) (us : List Value), us.length = ps.length → bindArgs (PySem.W.fnOf "__init__" qual (defArgs st) (defBody st) (defScope st) .none kV doc pm an cdv ct) ⟨us, []⟩ = pure (ps.zip us))
    (r : OwnC K mg x C fI ns → (∃ fd, Fun K "__init__" qual st fI fd ∧ Binds K fd ps []) → goal) : goal :=
  r ⟨⟨⟨nm, q, N, bs, bm, sn, sub, ab, col, dd, m0, m1, m2, m3, m5, xL, ve⟩, sa, eC, tC, kC⟩, ⟨ga, gg, eC, hC⟩, a1, t1, no, PySem.W.mg_of X G aC, exm_self eC iC tC sC⟩ ⟨_, fun_mk l c k, .all (b kV doc pm an cdv ct)⟩
theorem exm_then {A B i j : Addr} {ns ms : List Str} (p : OwnC K mg x A i ns) (q : OwnC K mg y B j ms) (s : PySem.W.subIn K (.ref A) (.ref B) = some false) (r : PySem.W.exmOne K (.ref A) (.ref B) = some false → goal) : goal :=
  r (PySem.W.exm_ref q.ox.exC q.xf.hdC q.ox.tyC s)
def strKeysB (es : Array DictEntry) : Bool := es.toList.all fun e => match e.key with | .str _ _ => true | _ => false
theorem strKeys_of {es : Array DictEntry} (e : strKeysB es = true) : StrKeys es := fun d hd => by
  have q := List.all_eq_true.mp e d (Array.mem_toList_iff.mpr hd)
  cases k : d.key with
  | str n t => exact ⟨n, t, rfl⟩
  | _ => rw [k] at q; cases q
theorem obj_then {stE : Stmt} {psE : List Str} {qual qualE : Str} {C fI fE : Addr} {ns : List Str} {nm q : Str} {N : Addr} {bs : List Value} {hdct : Bool} {sn : List Str} {sub : List Value} {ab : Bool} {col : Option Bool} {dd : Option Addr} {m0 m1 m2 m3 m5 : Option Value} {newId : String}
    {es : Array DictEntry} {ep : Nat} {on : Obj} {oc : Value} {od an : Option Addr} {osl : Array (Option Value)} {kV doc pm cdv ct : Value} {oc' : Option Addr} {osl' : Array (Option Value)} {an' : Option Addr} {kV' doc' pm' cdv' ct' : Value} (X : K.In h) (G : h.Ns mainGlobals mg) (aC : PySem.W.nsIn K mainGlobals x = some (some (.ref C)))
    (xL : K.lookup C = some (excClassObj nm q C N bs [.type "object"] hdct sn sub ab col dd m0 m1 m2 m3 m5 newId)) (lN : K.lookup N = some on) (dN : on.data = .dict es ep) (kN : strKeysB es = true)
    (pg : PySem.W.plainGet K C Str.empty = true) (hd : PySem.W.hasDictIn K C = true) (po : PySem.W.plainOver K C = true) (sa : PySem.W.findIn K (.ref C) "__setattr__" = some (some (.builtin "object.__setattr__"))) (mk : PySem.W.makesIn K C = true) (kc : PySem.W.keepIn K (.ref C) = true)
    (no : ∀ f ∈ ns, PySem.W.findIn K (.ref C) f = some none) (a1 : PySem.W.findIn K (.ref C) "__init__" = some (some (.ref fI))) (i1 : PySem.W.isFn K (.ref fI) = true)
    (l1 : K.lookup fI = some ⟨oc, od, .func (PySem.W.fnOf "__init__" qual (defArgs st) (defBody st) (defScope st) .none kV doc pm an cdv ct), osl⟩) (c1 : PySem.W.codeIn K cdv qual = true) (k1 : PySem.W.keepIn K (.ref fI) = true)
    (a2 : PySem.W.findIn K (.ref C) "__eq__" = some (some (.ref fE))) (i2 : PySem.W.isFn K (.ref fE) = true)
    (l2 : K.lookup fE = some ⟨.type "function", oc', .func (PySem.W.fnOf "__eq__" qualE (defArgs stE) (defBody stE) (defScope stE) .none kV' doc' pm' an' cdv' ct'), osl'⟩) (c2 : PySem.W.codeIn K cdv' qualE = true) (k2 : PySem.W.keepIn K (.ref fE) = true)
    (it : PySem.W.subIn K (.type "int") (.ref C) = some false) (tt : PySem.W.subIn K (.type "tuple") (.ref C) = some false) (fq : nsFind es "__eq__" = some (.ref fE)) (fn : nsFind es "__ne__" = none)
    (ha : PySem.W.findIn K (.ref C) "__class__" = some (some (.builtin "object.__class__"))) (hn : PySem.W.specialIn K (.builtin "object.__class__") "__get__" = some (some (.builtin "getset_descriptor.__get__"))) (htk : PySem.W.takesIn K (.builtin "object.__class__") = some true) (hm : PySem.W.mroIn K C (.type "object") = some true)
    (kI : PySem.W.kitOne K (.type "int") (.ref C) = some false) (kT : PySem.W.kitOne K (.type "tuple") (.ref C) = some false)
    (b1 : ∀ (kV doc pm : Value) (an : Option Addr) (cdv ct : Value) (us : List Value), us.length = ps.length → bindArgs (PySem.W.fnOf "__init__" qual (defArgs st) (defBody st) (defScope st) .none kV doc pm an cdv ct) ⟨us, []⟩ = pure (ps.zip us))
    (b2 : ∀ (kV doc pm : Value) (an : Option Addr) (cdv ct : Value) (us : List Value), us.length = psE.length → bindArgs (PySem.W.fnOf "__eq__" qualE (defArgs stE) (defBody stE) (defScope stE) .none kV doc pm an cdv ct) ⟨us, []⟩ = pure (psE.zip us))
    (r : OwnO K mg x C fI fE ns → (∃ fd, FunV K "__init__" qual st fI fd ∧ Binds K fd ps []) → (∃ fd, FunV K "__eq__" qualE stE fE fd ∧ Binds K fd psE []) → goal) : goal := by
  have cl : Cls K C := ⟨pg, hd, po, sa⟩
  exact r ⟨cl, no, ⟨mk, a1, i1, kc⟩, PySem.W.mg_of X G aC, ⟨a2, i2, it, tt⟩, ⟨⟨nm, q, N, bs, hdct, sn, sub, ab, col, dd, m0, m1, m2, m3, m5, newId, es, ep, on, xL, lN, dN, strKeys_of kN, fq, fn⟩, ⟨_, l2, rfl⟩⟩, ⟨fun H a dx fs e => .ins e cl ha hn htk hm, kI, kT⟩⟩
    ⟨_, ⟨⟨oc, od, .none, kV, doc, pm, an, cdv, ct, osl, rfl, l1, c1⟩, k1⟩, .all (b1 kV doc pm an cdv ct)⟩ ⟨_, ⟨⟨.type "function", oc', .none, kV', doc', pm', an', cdv', ct', osl', rfl, l2, c2⟩, k2⟩, .all (b2 kV' doc' pm' an' cdv' ct')⟩
end
end DL
set_option maxRecDepth 100000
set_option maxHeartbeats 8000000
namespace K23
open PySem L2 PyProof.Rows DL
def top (i : Nat) : Stmt := PySem.Challenge.pw_lentvoices_k23_letters_made_and_refused.main.body.getD i (.Pass ⟨0, 0, 0, 0⟩)
abbrev s_BadName___init__ : Stmt := inClass (top 2) 0
abbrev N_BadName___init__ : List Str := ["self", "name"]
theorem sc_BadName___init__ : FnScope N_BadName___init__ ["self", "name"] (defScope s_BadName___init__) := ⟨rfl, rfl, rfl, by decide +kernel, rfl, by decide +kernel, by decide +kernel⟩
abbrev s_BadNumber___init__ : Stmt := inClass (top 3) 0
abbrev N_BadNumber___init__ : List Str := ["self", "what", "number"]
theorem sc_BadNumber___init__ : FnScope N_BadNumber___init__ ["self", "what", "number"] (defScope s_BadNumber___init__) := ⟨rfl, rfl, rfl, by decide +kernel, rfl, by decide +kernel, by decide +kernel⟩
abbrev s_BadSaying___init__ : Stmt := inClass (top 4) 0
abbrev N_BadSaying___init__ : List Str := ["self", "saying"]
theorem sc_BadSaying___init__ : FnScope N_BadSaying___init__ ["self", "saying"] (defScope s_BadSaying___init__) := ⟨rfl, rfl, rfl, by decide +kernel, rfl, by decide +kernel, by decide +kernel⟩
abbrev s_is_whole : Stmt := top 6
abbrev N_is_whole : List Str := ["value", "least", "most"]
theorem sc_is_whole : FnScope N_is_whole ["value", "least", "most"] (defScope s_is_whole) := ⟨rfl, rfl, rfl, by decide +kernel, rfl, by decide +kernel, by decide +kernel⟩
abbrev s_is_listed : Stmt := top 7
abbrev N_is_listed : List Str := ["value"]
theorem sc_is_listed : FnScope N_is_listed ["value"] (defScope s_is_listed) := ⟨rfl, rfl, rfl, by decide +kernel, rfl, by decide +kernel, by decide +kernel⟩
abbrev s_is_made_of : Stmt := top 13
abbrev N_is_made_of : List Str := ["value", "signs", "most", "sign"]
theorem sc_is_made_of : FnScope N_is_made_of ["value", "signs", "most"] (defScope s_is_made_of) := ⟨rfl, rfl, rfl, by decide +kernel, rfl, by decide +kernel, by decide +kernel⟩
abbrev s_is_name : Stmt := top 14
abbrev N_is_name : List Str := ["value"]
theorem sc_is_name : FnScope N_is_name ["value"] (defScope s_is_name) := ⟨rfl, rfl, rfl, by decide +kernel, rfl, by decide +kernel, by decide +kernel⟩
abbrev s_is_word : Stmt := top 15
abbrev N_is_word : List Str := ["value"]
theorem sc_is_word : FnScope N_is_word ["value"] (defScope s_is_word) := ⟨rfl, rfl, rfl, by decide +kernel, rfl, by decide +kernel, by decide +kernel⟩
abbrev s_is_quoted : Stmt := top 18
abbrev N_is_quoted : List Str := ["parts"]
theorem sc_is_quoted : FnScope N_is_quoted ["parts"] (defScope s_is_quoted) := ⟨rfl, rfl, rfl, by decide +kernel, rfl, by decide +kernel, by decide +kernel⟩
abbrev s_is_piece : Stmt := top 19
abbrev N_is_piece : List Str := ["value"]
theorem sc_is_piece : FnScope N_is_piece ["value"] (defScope s_is_piece) := ⟨rfl, rfl, rfl, by decide +kernel, rfl, by decide +kernel, by decide +kernel⟩
abbrev s_is_body : Stmt := top 20
abbrev N_is_body : List Str := ["value", "piece"]
theorem sc_is_body : FnScope N_is_body ["value"] (defScope s_is_body) := ⟨rfl, rfl, rfl, by decide +kernel, rfl, by decide +kernel, by decide +kernel⟩
abbrev s_is_subject_text : Stmt := top 24
abbrev N_is_subject_text : List Str := ["value", "parts", "part"]
theorem sc_is_subject_text : FnScope N_is_subject_text ["value"] (defScope s_is_subject_text) := ⟨rfl, rfl, rfl, by decide +kernel, rfl, by decide +kernel, by decide +kernel⟩
abbrev s_is_units : Stmt := top 25
abbrev N_is_units : List Str := ["value"]
theorem sc_is_units : FnScope N_is_units ["value"] (defScope s_is_units) := ⟨rfl, rfl, rfl, by decide +kernel, rfl, by decide +kernel, by decide +kernel⟩
abbrev s_is_truth : Stmt := top 26
abbrev N_is_truth : List Str := ["value"]
theorem sc_is_truth : FnScope N_is_truth ["value"] (defScope s_is_truth) := ⟨rfl, rfl, rfl, by decide +kernel, rfl, by decide +kernel, by decide +kernel⟩
abbrev s_is_speech : Stmt := top 27
abbrev N_is_speech : List Str := ["parts", "word", "subject", "side"]
theorem sc_is_speech : FnScope N_is_speech ["parts"] (defScope s_is_speech) := ⟨rfl, rfl, rfl, by decide +kernel, rfl, by decide +kernel, by decide +kernel⟩
abbrev s_is_post_saying : Stmt := top 28
abbrev N_is_post_saying : List Str := ["parts", "name", "thread", "body"]
theorem sc_is_post_saying : FnScope N_is_post_saying ["parts"] (defScope s_is_post_saying) := ⟨rfl, rfl, rfl, by decide +kernel, rfl, by decide +kernel, by decide +kernel⟩
abbrev s_is_saying : Stmt := top 29
abbrev N_is_saying : List Str := ["value", "word", "parts"]
theorem sc_is_saying : FnScope N_is_saying ["value"] (defScope s_is_saying) := ⟨rfl, rfl, rfl, by decide +kernel, rfl, by decide +kernel, by decide +kernel⟩
abbrev s_Letter___init__ : Stmt := inClass (top 30) 0
abbrev N_Letter___init__ : List Str := ["self", "account", "number", "saying"]
theorem sc_Letter___init__ : FnScope N_Letter___init__ ["self", "account", "number", "saying"] (defScope s_Letter___init__) := ⟨rfl, rfl, rfl, by decide +kernel, rfl, by decide +kernel, by decide +kernel⟩
abbrev s_Letter___eq__ : Stmt := inClass (top 30) 1
abbrev N_Letter___eq__ : List Str := ["self", "other"]
theorem sc_Letter___eq__ : FnScope N_Letter___eq__ ["self", "other"] (defScope s_Letter___eq__) := ⟨rfl, rfl, rfl, by decide +kernel, rfl, by decide +kernel, by decide +kernel⟩
abbrev s_law_pen : Stmt := top 32
abbrev N_law_pen : List Str := ["script", "fold", "cell"]
theorem sc_law_pen : FnScope N_law_pen ["script"] (defScope s_law_pen) := ⟨rfl, rfl, rfl, by decide +kernel, rfl, by decide +kernel, by decide +kernel⟩
abbrev s_law_draw : Stmt := top 33
abbrev N_law_draw : List Str := ["pen", "many", "cell", "digit", "blend"]
theorem sc_law_draw : FnScope N_law_draw ["pen", "many"] (defScope s_law_draw) := ⟨rfl, rfl, rfl, by decide +kernel, rfl, by decide +kernel, by decide +kernel⟩
abbrev s_law_pick : Stmt := top 34
abbrev N_law_pick : List Str := ["pen", "some"]
theorem sc_law_pick : FnScope N_law_pick ["pen", "some"] (defScope s_law_pick) := ⟨rfl, rfl, rfl, by decide +kernel, rfl, by decide +kernel, by decide +kernel⟩
abbrev s_law_shuffled : Stmt := top 35
abbrev N_law_shuffled : List Str := ["pen", "some", "left", "found", "lap"]
theorem sc_law_shuffled : FnScope N_law_shuffled ["pen", "some"] (defScope s_law_shuffled) := ⟨rfl, rfl, rfl, by decide +kernel, rfl, by decide +kernel, by decide +kernel⟩
abbrev s_law_name : Stmt := top 36
abbrev N_law_name : List Str := ["pen", "index", "word", "spot", "place"]
theorem sc_law_name : FnScope N_law_name ["pen", "index"] (defScope s_law_name) := ⟨rfl, rfl, rfl, by decide +kernel, rfl, by decide +kernel, by decide +kernel⟩
abbrev s_law_names : Stmt := top 37
abbrev N_law_names : List Str := ["pen", "many", "index"]
theorem sc_law_names : FnScope N_law_names ["pen", "many"] (defScope s_law_names) := ⟨rfl, rfl, rfl, by decide +kernel, rfl, by decide +kernel, by decide +kernel⟩
abbrev s_law_some_ladder : Stmt := top 38
abbrev N_law_some_ladder : List Str := ["pen", "top", "lends", "rank", "needs"]
theorem sc_law_some_ladder : FnScope N_law_some_ladder ["pen"] (defScope s_law_some_ladder) := ⟨rfl, rfl, rfl, by decide +kernel, rfl, by decide +kernel, by decide +kernel⟩
abbrev s_law_some_forum : Stmt := top 39
abbrev N_law_some_forum : List Str := ["pen", "names", "lends", "needs", "founders", "name", "rules", "word", "kind", "threads"]
theorem sc_law_some_forum : FnScope N_law_some_forum ["pen", "names"] (defScope s_law_some_forum) := ⟨rfl, rfl, rfl, by decide +kernel, rfl, by decide +kernel, by decide +kernel⟩
abbrev s_law_some_saying : Stmt := top 40
abbrev N_law_some_saying : List Str := ["pen", "rows", "names", "way", "subject"]
theorem sc_law_some_saying : FnScope N_law_some_saying ["pen", "rows", "names"] (defScope s_law_some_saying) := ⟨rfl, rfl, rfl, by decide +kernel, rfl, by decide +kernel, by decide +kernel⟩
abbrev s_law_same : Stmt := top 41
abbrev N_law_same : List Str := ["told", "due", "one", "two"]
theorem sc_law_same : FnScope N_law_same ["told", "due"] (defScope s_law_same) := ⟨rfl, rfl, rfl, by decide +kernel, rfl, by decide +kernel, by decide +kernel⟩
abbrev s_law_is_name : Stmt := top 42
abbrev N_law_is_name : List Str := ["value", "letters", "sign"]
theorem sc_law_is_name : FnScope N_law_is_name ["value"] (defScope s_law_is_name) := ⟨rfl, rfl, rfl, by decide +kernel, rfl, by decide +kernel, by decide +kernel⟩
abbrev s_law_is_whole : Stmt := top 43
abbrev N_law_is_whole : List Str := ["value", "low", "high"]
theorem sc_law_is_whole : FnScope N_law_is_whole ["value", "low", "high"] (defScope s_law_is_whole) := ⟨rfl, rfl, rfl, by decide +kernel, rfl, by decide +kernel, by decide +kernel⟩
abbrev s_law_is_subject : Stmt := top 44
abbrev N_law_is_subject : List Str := ["value", "parts", "part"]
theorem sc_law_is_subject : FnScope N_law_is_subject ["value"] (defScope s_law_is_subject) := ⟨rfl, rfl, rfl, by decide +kernel, rfl, by decide +kernel, by decide +kernel⟩
abbrev s_law_is_piece : Stmt := top 45
abbrev N_law_is_piece : List Str := ["value", "sign"]
theorem sc_law_is_piece : FnScope N_law_is_piece ["value"] (defScope s_law_is_piece) := ⟨rfl, rfl, rfl, by decide +kernel, rfl, by decide +kernel, by decide +kernel⟩
abbrev s_law_is_body : Stmt := top 46
abbrev N_law_is_body : List Str := ["value", "piece"]
theorem sc_law_is_body : FnScope N_law_is_body ["value"] (defScope s_law_is_body) := ⟨rfl, rfl, rfl, by decide +kernel, rfl, by decide +kernel, by decide +kernel⟩
abbrev s_law_is_saying : Stmt := top 47
abbrev N_law_is_saying : List Str := ["value", "word", "size"]
theorem sc_law_is_saying : FnScope N_law_is_saying ["value"] (defScope s_law_is_saying) := ⟨rfl, rfl, rfl, by decide +kernel, rfl, by decide +kernel, by decide +kernel⟩
abbrev s_law_some_word : Stmt := top 48
abbrev N_law_some_word : List Str := ["pen", "word", "spot"]
theorem sc_law_some_word : FnScope N_law_some_word ["pen"] (defScope s_law_some_word) := ⟨rfl, rfl, rfl, by decide +kernel, rfl, by decide +kernel, by decide +kernel⟩
abbrev s_law_some_piece : Stmt := top 49
abbrev N_law_some_piece : List Str := ["pen", "names", "way"]
theorem sc_law_some_piece : FnScope N_law_some_piece ["pen", "names"] (defScope s_law_some_piece) := ⟨rfl, rfl, rfl, by decide +kernel, rfl, by decide +kernel, by decide +kernel⟩
abbrev s_law_any_saying : Stmt := top 50
abbrev N_law_any_saying : List Str := ["pen", "rows", "names", "way", "body", "spot"]
theorem sc_law_any_saying : FnScope N_law_any_saying ["pen", "rows", "names"] (defScope s_law_any_saying) := ⟨rfl, rfl, rfl, by decide +kernel, rfl, by decide +kernel, by decide +kernel⟩
abbrev s_law_odd : Stmt := top 51
abbrev N_law_odd : List Str := ["pen", "menu"]
theorem sc_law_odd : FnScope N_law_odd ["pen"] (defScope s_law_odd) := ⟨rfl, rfl, rfl, by decide +kernel, rfl, by decide +kernel, by decide +kernel⟩
abbrev s_law_bent : Stmt := top 52
abbrev N_law_bent : List Str := ["pen", "value", "place", "way", "part", "spot", "deep", "at"]
theorem sc_law_bent : FnScope N_law_bent ["pen", "value"] (defScope s_law_bent) := ⟨rfl, rfl, rfl, by decide +kernel, rfl, by decide +kernel, by decide +kernel⟩
abbrev s_law_alike : Stmt := top 53
abbrev N_law_alike : List Str := ["told", "due", "one", "two"]
theorem sc_law_alike : FnScope N_law_alike ["told", "due"] (defScope s_law_alike) := ⟨rfl, rfl, rfl, by decide +kernel, rfl, by decide +kernel, by decide +kernel⟩
abbrev s_law_made : Stmt := top 54
abbrev N_law_made : List Str := ["account", "number", "saying", "letter", "error"]
theorem sc_law_made : FnScope N_law_made ["account", "number", "saying"] (defScope s_law_made) := ⟨rfl, rfl, rfl, by decide +kernel, rfl, by decide +kernel, by decide +kernel⟩
abbrev s_law_due : Stmt := top 55
abbrev N_law_due : List Str := ["account", "number", "saying"]
theorem sc_law_due : FnScope N_law_due ["account", "number", "saying"] (defScope s_law_due) := ⟨rfl, rfl, rfl, by decide +kernel, rfl, by decide +kernel, by decide +kernel⟩
abbrev s_law : Stmt := top 56
abbrev N_law : List Str := ["script", "pen", "names", "rows", "lap", "account", "number", "saying", "letter", "other", "changed", "handed", "due", "told", "kept", "odd"]
theorem sc_law : FnScope N_law ["script"] (defScope s_law) := ⟨rfl, rfl, rfl, by decide +kernel, rfl, by decide +kernel, by decide +kernel⟩
structure Txt (K : PySem.W.Frag) (mg : Str → Option Value) (a_QUOTING a_SIDES a_BadName i_BadName a_BadNumber i_BadNumber a_BadSaying i_BadSaying a_Letter i_Letter q_Letter : Addr) : Prop where
  b_all : mg "all" = none
  b_bool : mg "bool" = none
  b_int : mg "int" = none
  b_isinstance : mg "isinstance" = none
  b_len : mg "len" = none
  b_list : mg "list" = none
  b_min : mg "min" = none
  b_range : mg "range" = none
  b_sorted : mg "sorted" = none
  b_str : mg "str" = none
  b_tuple : mg "tuple" = none
  b_zip : mg "zip" = none
  g_LETTERS : ∃ u, mg "LETTERS" = some u ∧ RelV (.str "abcdefghijklmnopqrstuvwxyz") u
  g_FIGURES : ∃ u, mg "FIGURES" = some u ∧ RelV (.str "0123456789") u
  g_LONGEST_WORD : ∃ u, mg "LONGEST_WORD" = some u ∧ RelV (.int 12) u
  g_QUOTING : ∃ u, mg "QUOTING" = some u ∧ RelV (.ref a_QUOTING) u
  t_QUOTING : ∀ H, SqT K H a_QUOTING [(.str "see"), (.str "copy")]
  g_MOST_PIECES : ∃ u, mg "MOST_PIECES" = some u ∧ RelV (.int 20) u
  g_MOST_UNITS : ∃ u, mg "MOST_UNITS" = some u ∧ RelV (.int 24) u
  g_SIDES : ∃ u, mg "SIDES" = some u ∧ RelV (.ref a_SIDES) u
  t_SIDES : ∀ H, SqT K H a_SIDES [(.str "for"), (.str "against"), (.str "none")]
  x_BadName : OwnC K mg "BadName" a_BadName i_BadName ["name"]
  x_BadNumber : OwnC K mg "BadNumber" a_BadNumber i_BadNumber ["what", "number"]
  x_BadSaying : OwnC K mg "BadSaying" a_BadSaying i_BadSaying ["saying"]
  z_BadName_BadNumber : PySem.W.exmOne K (.ref a_BadName) (.ref a_BadNumber) = some false
  z_BadName_BadSaying : PySem.W.exmOne K (.ref a_BadName) (.ref a_BadSaying) = some false
  z_BadNumber_BadName : PySem.W.exmOne K (.ref a_BadNumber) (.ref a_BadName) = some false
  z_BadNumber_BadSaying : PySem.W.exmOne K (.ref a_BadNumber) (.ref a_BadSaying) = some false
  z_BadSaying_BadName : PySem.W.exmOne K (.ref a_BadSaying) (.ref a_BadName) = some false
  z_BadSaying_BadNumber : PySem.W.exmOne K (.ref a_BadSaying) (.ref a_BadNumber) = some false
  l_Letter : OwnO K mg "Letter" a_Letter i_Letter q_Letter ["account", "number", "saying"]
structure Defs (K : PySem.W.Frag) (mg : Str → Option Value) (a_QUOTING a_SIDES a_BadName i_BadName a_BadNumber i_BadNumber a_BadSaying i_BadSaying a_Letter i_Letter q_Letter : Addr) : Prop where
  e_BadName : ∃ fd, Fun K "__init__" "BadName.__init__" s_BadName___init__ i_BadName fd ∧ Binds K fd ["self", "name"] []
  e_BadNumber : ∃ fd, Fun K "__init__" "BadNumber.__init__" s_BadNumber___init__ i_BadNumber fd ∧ Binds K fd ["self", "what", "number"] []
  e_BadSaying : ∃ fd, Fun K "__init__" "BadSaying.__init__" s_BadSaying___init__ i_BadSaying fd ∧ Binds K fd ["self", "saying"] []
  e_Letter : ∃ fd, FunV K "__init__" "Letter.__init__" s_Letter___init__ i_Letter fd ∧ Binds K fd ["self", "account", "number", "saying"] []
  h_Letter : ∃ fd, FunV K "__eq__" "Letter.__eq__" s_Letter___eq__ q_Letter fd ∧ Binds K fd ["self", "other"] []
  d_is_whole : Def K mg "is_whole" s_is_whole ["value", "least", "most"] []
  d_is_whole_1 : Def K mg "is_whole" s_is_whole ["value", "least", "most"] [.non]
  d_is_listed : Def K mg "is_listed" s_is_listed ["value"] []
  d_is_made_of : Def K mg "is_made_of" s_is_made_of ["value", "signs", "most"] []
  d_is_name : Def K mg "is_name" s_is_name ["value"] []
  d_is_word : Def K mg "is_word" s_is_word ["value"] []
  d_is_quoted : Def K mg "is_quoted" s_is_quoted ["parts"] []
  d_is_piece : Def K mg "is_piece" s_is_piece ["value"] []
  d_is_body : Def K mg "is_body" s_is_body ["value"] []
  d_is_subject_text : Def K mg "is_subject_text" s_is_subject_text ["value"] []
  d_is_units : Def K mg "is_units" s_is_units ["value"] []
  d_is_truth : Def K mg "is_truth" s_is_truth ["value"] []
  d_is_speech : Def K mg "is_speech" s_is_speech ["parts"] []
  d_is_post_saying : Def K mg "is_post_saying" s_is_post_saying ["parts"] []
  d_is_saying : Def K mg "is_saying" s_is_saying ["value"] []
  d_law_pen : Def K mg "_law_pen" s_law_pen ["script"] []
  d_law_draw : Def K mg "_law_draw" s_law_draw ["pen", "many"] []
  d_law_pick : Def K mg "_law_pick" s_law_pick ["pen", "some"] []
  d_law_shuffled : Def K mg "_law_shuffled" s_law_shuffled ["pen", "some"] []
  d_law_name : Def K mg "_law_name" s_law_name ["pen", "index"] []
  d_law_names : Def K mg "_law_names" s_law_names ["pen", "many"] []
  d_law_some_ladder : Def K mg "_law_some_ladder" s_law_some_ladder ["pen"] []
  d_law_some_forum : Def K mg "_law_some_forum" s_law_some_forum ["pen", "names"] []
  d_law_some_saying : Def K mg "_law_some_saying" s_law_some_saying ["pen", "rows", "names"] []
  d_law_same : Def K mg "_law_same" s_law_same ["told", "due"] []
  d_law_is_name : Def K mg "_law_is_name" s_law_is_name ["value"] []
  d_law_is_whole : Def K mg "_law_is_whole" s_law_is_whole ["value", "low", "high"] []
  d_law_is_subject : Def K mg "_law_is_subject" s_law_is_subject ["value"] []
  d_law_is_piece : Def K mg "_law_is_piece" s_law_is_piece ["value"] []
  d_law_is_body : Def K mg "_law_is_body" s_law_is_body ["value"] []
  d_law_is_saying : Def K mg "_law_is_saying" s_law_is_saying ["value"] []
  d_law_some_word : Def K mg "_law_some_word" s_law_some_word ["pen"] []
  d_law_some_piece : Def K mg "_law_some_piece" s_law_some_piece ["pen", "names"] []
  d_law_any_saying : Def K mg "_law_any_saying" s_law_any_saying ["pen", "rows", "names"] []
  d_law_odd : Def K mg "_law_odd" s_law_odd ["pen"] []
  d_law_bent : Def K mg "_law_bent" s_law_bent ["pen", "value"] []
  d_law_alike : Def K mg "_law_alike" s_law_alike ["told", "due"] []
  d_law_made : Def K mg "_law_made" s_law_made ["account", "number", "saying"] []
  d_law_due : Def K mg "_law_due" s_law_due ["account", "number", "saying"] []
  d_law : Def K mg "law" s_law ["script"] []
/-! ### the mathematics: what a name, a word, a body, a saying is -/
/-- a value that may be asked: no object; a text is not too long -/
structure LV (d : D) : Prop where
  bi : d.builtin = true
  len : ∀ z, d = .str z → z.length ≤ 999999
theorem LV.of {d : D} (h : GV d) : LV d := ⟨h.bi, fun z e => by subst e; have := h.strLen; omega⟩
theorem LV.sl {z : Str} (h : LV (.str z)) : (D.str z).len = some z.length := len_str (Nat.le_trans (h.len z rfl) (by decide))
def madeB (sg : Str) (most : Int) : D → Bool
  | .str z => (decide ((1 : Int) ≤ (z.length : Int)) && decide ((z.length : Int) ≤ most)) && z.cps.toList.all fun c => decide (c ∈ sg.cps.toList)
  | _ => false
abbrev sLET : Str := "abcdefghijklmnopqrstuvwxyz"
abbrev sFIG : Str := "0123456789"
abbrev sLF : Str := sLET ++ sFIG
def headB : D → Bool
  | .str z => match z.cps.toList with
    | c :: _ => decide (c ∈ sLET.cps.toList)
    | [] => false
  | _ => false
def nameB (d : D) : Bool := madeB sLF 12 d && headB d
def wholeB (lo : Int) (hi : Option Int) : D → Bool
  | .int i => decide (lo ≤ i) && (match hi with | none => true | some h => decide (i ≤ h))
  | _ => false
def hiD : D → Option (Option Int)
  | .non => some none
  | .int i => some (some i)
  | _ => none
def quotB : D → Bool
  | .str z => decide (z = "see") || decide (z = "copy")
  | _ => false
def wordB (d : D) : Bool := madeB sLF 12 d && !quotB d
def subjB : D → Bool
  | .str z => decide ((Txt.split z ".").length < 3) && (Txt.split z ".").all fun p => nameB (.str p)
  | _ => false
def pieceT (w : Str) : List D → Bool
  | [a] => decide (w = "word") && wordB a
  | [a, b] => decide (w = "see") && (nameB a && nameB b)
  | [a, b, n] => decide (w = "copy") && ((nameB a && nameB b) && wholeB 1 none n)
  | _ => false
def pieceB : D → Bool
  | .tup (.str w :: l) => pieceT w l
  | _ => false
def bodyB : D → Bool
  | .tup ds => decide (ds.length ≤ 20) && ds.all pieceB
  | _ => false
def sideB : D → Bool
  | .str z => decide (z = "for") || (decide (z = "against") || decide (z = "none"))
  | _ => false
def sayT (w : Str) : List D → Bool
  | [a] => decide (w = "take") && nameB a
  | [a, b] => if w = "vouch" ∨ w = "circle" then nameB a && wholeB 0 (some 24) b else if w = "back" ∨ w = "block" then nameB a && b.isB else false
  | [a, b, c] => if w = "speak" then nameB a && (subjB b && sideB c) else if w = "post" then nameB a && (nameB b && bodyB c) else false
  | _ => false
def sayingB (d : D) : Bool := match d.its with
  | some (.str w :: l) => sayT w l
  | _ => false
def prQ : D → Prop
  | .tup [a, b] => LV a ∧ LV b
  | _ => False
def quB : D → Bool
  | .tup [a, b] => nameB a && nameB b
  | _ => false
def pr3 (d : D) : Prop := match d.its with
  | some [a, b, c] => GV a ∧ GV b ∧ GV c
  | _ => False
def speB (d : D) : Bool := match d.its with
  | some [a, b, c] => nameB a && (subjB b && sideB c)
  | _ => false
def pstB (d : D) : Bool := match d.its with
  | some [a, b, c] => nameB a && (nameB b && bodyB c)
  | _ => false
theorem pr3_of {d : D} (h : pr3 d) : ∃ a b c, d.its = some [a, b, c] ∧ GV a ∧ GV b ∧ GV c := by
  unfold pr3 at h
  split at h
  · rename_i a b c e; exact ⟨a, b, c, e, h⟩
  · exact h.elim
theorem ne_1 : ¬ (("see" : Str) = "word") := by decide +kernel
theorem ne_2 : ¬ (("copy" : Str) = "word") := by decide +kernel
theorem ne_3 : ¬ (("copy" : Str) = "see") := by decide +kernel
theorem ne_take_vouch : ¬ (("take" : Str) = "vouch") := by decide +kernel
theorem ne_take_circle : ¬ (("take" : Str) = "circle") := by decide +kernel
theorem ne_take_back : ¬ (("take" : Str) = "back") := by decide +kernel
theorem ne_take_block : ¬ (("take" : Str) = "block") := by decide +kernel
theorem ne_take_speak : ¬ (("take" : Str) = "speak") := by decide +kernel
theorem ne_take_post : ¬ (("take" : Str) = "post") := by decide +kernel
theorem ne_vouch_take : ¬ (("vouch" : Str) = "take") := by decide +kernel
theorem ne_vouch_circle : ¬ (("vouch" : Str) = "circle") := by decide +kernel
theorem ne_vouch_back : ¬ (("vouch" : Str) = "back") := by decide +kernel
theorem ne_vouch_block : ¬ (("vouch" : Str) = "block") := by decide +kernel
theorem ne_vouch_speak : ¬ (("vouch" : Str) = "speak") := by decide +kernel
theorem ne_vouch_post : ¬ (("vouch" : Str) = "post") := by decide +kernel
theorem ne_circle_take : ¬ (("circle" : Str) = "take") := by decide +kernel
theorem ne_circle_vouch : ¬ (("circle" : Str) = "vouch") := by decide +kernel
theorem ne_circle_back : ¬ (("circle" : Str) = "back") := by decide +kernel
theorem ne_circle_block : ¬ (("circle" : Str) = "block") := by decide +kernel
theorem ne_circle_speak : ¬ (("circle" : Str) = "speak") := by decide +kernel
theorem ne_circle_post : ¬ (("circle" : Str) = "post") := by decide +kernel
theorem ne_back_take : ¬ (("back" : Str) = "take") := by decide +kernel
theorem ne_back_vouch : ¬ (("back" : Str) = "vouch") := by decide +kernel
theorem ne_back_circle : ¬ (("back" : Str) = "circle") := by decide +kernel
theorem ne_back_block : ¬ (("back" : Str) = "block") := by decide +kernel
theorem ne_back_speak : ¬ (("back" : Str) = "speak") := by decide +kernel
theorem ne_back_post : ¬ (("back" : Str) = "post") := by decide +kernel
theorem ne_block_take : ¬ (("block" : Str) = "take") := by decide +kernel
theorem ne_block_vouch : ¬ (("block" : Str) = "vouch") := by decide +kernel
theorem ne_block_circle : ¬ (("block" : Str) = "circle") := by decide +kernel
theorem ne_block_back : ¬ (("block" : Str) = "back") := by decide +kernel
theorem ne_block_speak : ¬ (("block" : Str) = "speak") := by decide +kernel
theorem ne_block_post : ¬ (("block" : Str) = "post") := by decide +kernel
theorem ne_speak_take : ¬ (("speak" : Str) = "take") := by decide +kernel
theorem ne_speak_vouch : ¬ (("speak" : Str) = "vouch") := by decide +kernel
theorem ne_speak_circle : ¬ (("speak" : Str) = "circle") := by decide +kernel
theorem ne_speak_back : ¬ (("speak" : Str) = "back") := by decide +kernel
theorem ne_speak_block : ¬ (("speak" : Str) = "block") := by decide +kernel
theorem ne_speak_post : ¬ (("speak" : Str) = "post") := by decide +kernel
theorem ne_post_take : ¬ (("post" : Str) = "take") := by decide +kernel
theorem ne_post_vouch : ¬ (("post" : Str) = "vouch") := by decide +kernel
theorem ne_post_circle : ¬ (("post" : Str) = "circle") := by decide +kernel
theorem ne_post_back : ¬ (("post" : Str) = "back") := by decide +kernel
theorem ne_post_block : ¬ (("post" : Str) = "block") := by decide +kernel
theorem ne_post_speak : ¬ (("post" : Str) = "speak") := by decide +kernel
theorem strs_or {z a b : Str} : (a == z || b == z) = (decide (z = a) || decide (z = b)) := by
  rw [Bool.eq_iff_iff]
  simp only [Bool.or_eq_true, beq_iff_eq, decide_eq_true_eq]
  exact ⟨fun h => h.imp Eq.symm Eq.symm, fun h => h.imp Eq.symm Eq.symm⟩
theorem strs_or3 {z a b c : Str} : (a == z || (b == z || c == z)) = (decide (z = a) || (decide (z = b) || decide (z = c))) := by
  rw [Bool.eq_iff_iff]
  simp only [Bool.or_eq_true, beq_iff_eq, decide_eq_true_eq]
  exact ⟨fun h => h.imp Eq.symm fun h => h.imp Eq.symm Eq.symm, fun h => h.imp Eq.symm fun h => h.imp Eq.symm Eq.symm⟩
theorem split_len {z p : Str} (h : p ∈ Txt.split z ".") : p.length ≤ z.length := PyProof.Rows.part_short h
theorem sub_in {x : Str} {i j c : Nat} (h : c ∈ (Builtin.Str.strSub x i j).cps.toList) : c ∈ x.cps.toList := by
  have e : (Builtin.Str.strSub x i j).cps = x.cps.extract i j := rfl
  rw [e, Array.toList_extract] at h
  exact List.mem_of_mem_drop (List.mem_of_mem_take h)
theorem from_in (x : Str) (w : Nat) : ∀ (cuts : List Nat) (a : Nat), ∀ p ∈ StrLaws.partsFrom x w a cuts, ∀ c ∈ p.cps.toList, c ∈ x.cps.toList
  | [], a, p, hp => by rw [List.mem_singleton.mp hp]; exact fun c => sub_in
  | k :: r, a, p, hp => by
    rcases List.mem_cons.mp hp with rfl | hp'
    · exact fun c => sub_in
    · exact from_in x w r _ p hp'
theorem split_in {x y a : Str} (h : a ∈ Txt.split x y) : ∀ c ∈ a.cps.toList, c ∈ x.cps.toList := by
  unfold Txt.split at h
  split at h
  · rw [List.mem_singleton.mp h]; exact fun c h => h
  · split at h
    · rw [List.mem_singleton.mp h]; exact fun c h => h
    · rw [StrLaws.partsBetween_eq] at h
      exact from_in x _ _ _ a h
theorem split_ok {x y a : Str} {k j n : Nat} (h : a ∈ Txt.split x y) (g : GD k n (.str x)) : GD j n (.str a) := .str (strOk_sub (split_in h) g.strOk) (by have := g.strLen; have := PyProof.Rows.part_short h; omega)
theorem split_pos {x y : Str} : 0 < (Txt.split x y).length := by
  unfold Txt.split
  split
  · simp
  · split
    · simp
    · rw [PyProof.Rows.len_partsBetween]; omega
theorem nameB_len {z : Str} (h : ¬ (1 : Int) ≤ z.length ∨ ¬ (z.length : Int) ≤ 12) : nameB (.str z) = false := by
  have e : madeB sLF 12 (.str z) = false := by
    show ((decide ((1 : Int) ≤ (z.length : Int)) && decide ((z.length : Int) ≤ 12)) && _) = false
    rcases h with h | h
    · rw [decide_eq_false h]; rfl
    · rw [decide_eq_false h, Bool.and_false]; rfl
  rw [nameB, e]; rfl
theorem wordB_len {z : Str} (h : ¬ (1 : Int) ≤ z.length ∨ ¬ (z.length : Int) ≤ 12) : wordB (.str z) = false := by
  have e : madeB sLF 12 (.str z) = false := by
    show ((decide ((1 : Int) ≤ (z.length : Int)) && decide ((z.length : Int) ≤ 12)) && _) = false
    rcases h with h | h
    · rw [decide_eq_false h]; rfl
    · rw [decide_eq_false h, Bool.and_false]; rfl
  rw [wordB, e]; rfl
theorem madeB_in {z sg : Str} (h1 : (1 : Int) ≤ z.length) (h2 : (z.length : Int) ≤ 12) : madeB sg 12 (.str z) = z.cps.toList.all fun c => decide (c ∈ sg.cps.toList) := by
  show ((decide ((1 : Int) ≤ (z.length : Int)) && decide ((z.length : Int) ≤ 12)) && _) = _
  rw [decide_eq_true h1, decide_eq_true h2]; rfl
theorem cons_of {z : Str} (h1 : (1 : Int) ≤ z.length) : ∃ c cs, z.cps.toList = c :: cs := by
  cases e : z.cps.toList with
  | nil =>
    have := len_cps (z := z)
    rw [e] at this
    simp at this
    omega
  | cons c cs => exact ⟨c, cs, rfl⟩
def inSign (sg : Str) (d : D) : Bool := match d.sign with
  | some k => decide (k ∈ sg.cps.toList)
  | none => false
theorem all_signs {z sg : Str} : (DL.signs z).all (inSign sg) = z.cps.toList.all fun c => decide (c ∈ sg.cps.toList) := by
  unfold DL.signs
  rw [List.all_map]
  rfl
theorem GV.lv {d : D} (h : GV d) : LV d := LV.of h
theorem madeB_some {sg : Str} {m : Int} {d : D} (h : madeB sg m d = true) : ∃ z c cs, d = .str z ∧ z.cps.toList = c :: cs ∧ (z.length : Int) ≤ m := by
  cases d with
  | str z =>
    simp [madeB] at h
    cases e : z.cps.toList with
    | nil =>
      have : z.length = 0 := by rw [← len_cps, e]; rfl
      omega
    | cons c cs => exact ⟨z, c, cs, rfl, e, h.1.2⟩
  | _ => cases h
end K23
set_option maxRecDepth 100000
set_option maxHeartbeats 8000000
namespace K23
open PySem L2 PyProof.Rows DL
section
variable {P : Program} {w : World} {K : PySem.W.Frag} {mg : Str → Option Value} {base : Heap} {a_QUOTING a_SIDES a_BadName i_BadName a_BadNumber i_BadNumber a_BadSaying i_BadSaying a_Letter i_Letter q_Letter : Addr}
local macro_rules | `(tactic| walk_at "w") => `(tactic| simp only [DL.w_var, DL.w_int, DL.w_bl, DL.w_str, DL.w_non, DL.w_ktup, DL.w_op, DL.w_neg, DL.w_chain, DL.w_nil, DL.w_cons, DL.w_tup, DL.w_lst, DL.w_tst, DL.w_tb, DL.w_not, DL.w_yes, DL.w_and, DL.w_or, DL.w_andV, DL.w_orV, DL.w_notV, DL.w_ite, DL.w_none, DL.w_some, DL.w_sl, DL.w_cb, DL.w_isi, DL.w_isi2, DL.w_call, DL.w_callD, DL.w_callX, DL.w_callG, DL.w_split, DL.w_dget, DL.w_dnil, DL.w_dcons, DL.ks_nil, DL.ks_cons, DL.w_disp, DL.w_seqI, DL.w_rng1, DL.w_rng2, DL.w_enum, DL.w_zip, DL.w_lc, DL.w_borrow, DL.w_up, DL.w_popAt, DL.w_next, DL.w_brk, DL.w_cont, DL.w_seq, DL.w_ret, DL.w_retN, DL.w_asg, DL.w_asgT, DL.w_asgOwn, DL.w_drop, DL.w_ifS, DL.w_append, DL.w_frz, frzAt_0, frzAt_d, frzAt_u, frzAt_s, DL.w_forS, DL.w_par, DL.w_parLE,
  DL.q_int, DL.q_cmp, DL.q_intC, DL.q_addI, DL.q_addS, DL.q_addT, DL.q_addL, DL.q_mulI, DL.q_mulS, DL.q_mulL, DL.q_eq, DL.q_ne, DL.q_isN, DL.q_isB, DL.q_notN, DL.q_inT, DL.q_inL, DL.q_inS, DL.q_ninT, DL.q_ninL, DL.q_ninS, DL.q_ixL, DL.q_ixT, DL.q_ixS, DL.n_len, DL.n_list, DL.n_tuple, DL.n_all, DL.n_any, DL.n_sum, DL.n_sortedS, DL.n_min2, DL.n_max2, DL.n_int1, DL.n_strI, DL.n_repr, DL.g_name, DL.is_name, cut_tup, cut_lst,  isi_str, isi_int, isi_bool, isi_tuple, isi_list,
  datAt_0, datAt_s, ownAt_0, ownAt_s, penIs_0, penIs_s, setD_nil, setD_cons, wipeG, List.set_cons_zero, List.set_cons_succ, List.set_nil, List.map_cons, List.map_nil, List.cons_append, List.nil_append,
  D.bl.injEq, D.int.injEq, D.str.injEq, exists_eq_left', exists_eq_left, exists_and_left, exists_eq', exists_eq, true_and, and_true, true_imp_iff, false_imp_iff, Bool.true_eq_false, Bool.false_eq_true, forall_const, Bool.not_true, Bool.not_false, List.length_cons, List.length_nil, eqv_str, eqv_int, ok_int, ok_bl, ok_non, forall_eq, atI_0, atI_1, atI_2, atI_3, List.getElem?_cons_zero, List.getElem?_cons_succ, List.getElem?_nil, Option.some.injEq, Sk.own.injEq, len_tup, len_lst, its_tup, its_lst, itemsOf_tup, itemsOf_lst, itemsOf_str, isS_str, isT_tup, isL_lst, isI_int, isB_bl, builtin_str, builtin_tup, builtin_lst, builtin_int, builtin_bl, builtin_non, D.sign_one, List.all_cons, List.all_nil, Bool.and_true])

abbrev pre_is_whole : List D → Prop
  | [value_, least_, most_] => LV value_ ∧ ∃ lo hi, least_ = .int lo ∧ hiD most_ = some hi
  | _ => False
abbrev post_is_whole : List D → D → Prop
  | [value_, least_, most_], r => ∃ lo hi, least_ = .int lo ∧ hiD most_ = some hi ∧ r = .bl (wholeB lo hi value_)
  | _, _ => False
def u_is_whole (T : Txt K mg a_QUOTING a_SIDES a_BadName i_BadName a_BadNumber i_BadNumber a_BadSaying i_BadSaying a_Letter i_Letter q_Letter) : WS K L2.E0 := (WS.seq (WS.ifS (WT.or (WT.not (WT.b (WE.isi "int" (WE.var 0)))) (WT.or (WT.b (WE.isi "bool" (WE.var 0))) (WT.tst (WE.op (O2.cmp fun i j => decide (i < j)) (WE.var 0) (WE.var 1)))))
 (WS.ret (WM.up (WE.bl false)))
 WS.next)
 (WS.ret (WM.up (WE.orV (WE.op O2.isU (WE.var 2) WE.non) (WE.op (O2.cmp fun i j => decide (i ≤ j)) (WE.var 0) (WE.var 2))))))
theorem v_is_whole {value_ least_ most_ : D} (T : Txt K mg a_QUOTING a_SIDES a_BadName i_BadName a_BadNumber i_BadNumber a_BadSaying i_BadSaying a_Letter i_Letter q_Letter) (hp : LV value_ ∧ ∃ lo hi, least_ = .int lo ∧ hiD most_ = some hi) : (u_is_whole T).w noX [.dat value_, .dat least_, .dat most_] (retW fun r => ∃ lo hi, least_ = .int lo ∧ hiD most_ = some hi ∧ r = .bl (wholeB lo hi value_)) := by
  unfold u_is_whole
  walk_at "w"


  obtain ⟨hv, lo, hi, rfl, hm⟩ := hp
  cases value_ with
  | int i =>
    cases most_ with
    | non => cases hm; simp [wholeB, hiD, DL.q_cmp] <;> omega
    | int h => cases hm; simp [wholeB, hiD]; walk_at "w"; simp <;> omega
    | _ => cases hm
  | _ => simp [hv.bi, wholeB, hm]
theorem c_is_whole (X : Defs K mg a_QUOTING a_SIDES a_BadName i_BadName a_BadNumber i_BadNumber a_BadSaying i_BadSaying a_Letter i_Letter q_Letter) (T : Txt K mg a_QUOTING a_SIDES a_BadName i_BadName a_BadNumber i_BadNumber a_BadSaying i_BadSaying a_Letter i_Letter q_Letter) : Cal P w K mg base "is_whole" 1 ["value", "least", "most"] [] (SpP K pre_is_whole post_is_whole) := by
  refine cal_W (N := N_is_whole) (u_is_whole T) X.d_is_whole sc_is_whole (fun ds h => ?_) (fun f cdv A outer s H E hr ng => ⟨_, (pss_cons (ps_if (PW.pt (pw_or (pt_not (pt_val (pe_callB (call_isik (K := K)) (by rfl) T.b_isinstance (by decide +kernel) (pa_cons (pv 0) (pa_cons (pe_bltn (v := .ty "int") (by rfl) T.b_int (by decide +kernel) rfl) pa_nil))))) (pw_or (pt_val (pe_callB (call_isik (K := K)) (by rfl) T.b_isinstance (by decide +kernel) (pa_cons (pv 0) (pa_cons (pe_bltn (v := .ty "bool") (by rfl) T.b_bool (by decide +kernel) rfl) pa_nil)))) (pw_or1 (pt_cmpR op_lt (pv 0) (pv 1) (nomark _)))))) (pss_one (ps_ret pe_bl)) pss_nil)
 (pss_one (ps_ret (pe_or (pe_cmpR op_isU (pv 2) pe_non (nomark _)) (pe_one (pe_cmpR op_le (pv 0) (pv 2) (nomark _))))))), rfl⟩) rfl fun ds hp => ?_
  · match ds, h with
    | [_, _, _], _ => rfl
  · match ds, hp with
    | [value_, least_, most_], hp => exact w_at (u_is_whole T) (v_is_whole T hp) rfl rfl rfl
theorem c_is_whole_1 (X : Defs K mg a_QUOTING a_SIDES a_BadName i_BadName a_BadNumber i_BadNumber a_BadSaying i_BadSaying a_Letter i_Letter q_Letter) (T : Txt K mg a_QUOTING a_SIDES a_BadName i_BadName a_BadNumber i_BadNumber a_BadSaying i_BadSaying a_Letter i_Letter q_Letter) : Cal P w K mg base "is_whole" 1 ["value", "least", "most"] [.non] (SpP K pre_is_whole post_is_whole) := by
  refine cal_W (N := N_is_whole) (u_is_whole T) X.d_is_whole_1 sc_is_whole (fun ds h => ?_) (fun f cdv A outer s H E hr ng => ⟨_, (pss_cons (ps_if (PW.pt (pw_or (pt_not (pt_val (pe_callB (call_isik (K := K)) (by rfl) T.b_isinstance (by decide +kernel) (pa_cons (pv 0) (pa_cons (pe_bltn (v := .ty "int") (by rfl) T.b_int (by decide +kernel) rfl) pa_nil))))) (pw_or (pt_val (pe_callB (call_isik (K := K)) (by rfl) T.b_isinstance (by decide +kernel) (pa_cons (pv 0) (pa_cons (pe_bltn (v := .ty "bool") (by rfl) T.b_bool (by decide +kernel) rfl) pa_nil)))) (pw_or1 (pt_cmpR op_lt (pv 0) (pv 1) (nomark _)))))) (pss_one (ps_ret pe_bl)) pss_nil)
 (pss_one (ps_ret (pe_or (pe_cmpR op_isU (pv 2) pe_non (nomark _)) (pe_one (pe_cmpR op_le (pv 0) (pv 2) (nomark _))))))), rfl⟩) rfl fun ds hp => ?_
  · match ds, h with
    | [_, _, _], _ => rfl
  · match ds, hp with
    | [value_, least_, most_], hp => exact w_at (u_is_whole T) (v_is_whole T hp) rfl rfl rfl
abbrev pre_is_listed : List D → Prop
  | [value_] => LV value_
  | _ => False
abbrev post_is_listed : List D → D → Prop
  | [value_], r => r = .bl (value_.isT || value_.isL)
  | _, _ => False
def u_is_listed (T : Txt K mg a_QUOTING a_SIDES a_BadName i_BadName a_BadNumber i_BadNumber a_BadSaying i_BadSaying a_Letter i_Letter q_Letter) : WS K L2.E0 := (WS.ret (WM.up (WE.isi2 "tuple" "list" (WE.var 0))))
theorem v_is_listed {value_ : D} (T : Txt K mg a_QUOTING a_SIDES a_BadName i_BadName a_BadNumber i_BadNumber a_BadSaying i_BadSaying a_Letter i_Letter q_Letter) (hp : LV value_) : (u_is_listed T).w noX [.dat value_] (retW fun r => r = .bl (value_.isT || value_.isL)) := by
  unfold u_is_listed
  walk_at "w"

  exact hp.bi
theorem c_is_listed (X : Defs K mg a_QUOTING a_SIDES a_BadName i_BadName a_BadNumber i_BadNumber a_BadSaying i_BadSaying a_Letter i_Letter q_Letter) (T : Txt K mg a_QUOTING a_SIDES a_BadName i_BadName a_BadNumber i_BadNumber a_BadSaying i_BadSaying a_Letter i_Letter q_Letter) : Cal P w K mg base "is_listed" 1 ["value"] [] (SpP K pre_is_listed post_is_listed) := by
  refine cal_W (N := N_is_listed) (u_is_listed T) X.d_is_listed sc_is_listed (fun ds h => ?_) (fun f cdv A outer s H E hr ng => ⟨_, (pss_one (ps_ret (pe_callB (call_isiTk (K := K)) (by rfl) T.b_isinstance (by decide +kernel) (pa_cons (pv 0) (pa_cons (pe_tup (pa_cons (pe_bltn (v := .ty "tuple") (by rfl) T.b_tuple (by decide +kernel) rfl) (pa_cons (pe_bltn (v := .ty "list") (by rfl) T.b_list (by decide +kernel) rfl) pa_nil))) pa_nil))))), rfl⟩) rfl fun ds hp => ?_
  · match ds, h with
    | [_], _ => rfl
  · match ds, hp with
    | [value_], hp => exact w_at (u_is_listed T) (v_is_listed T hp) rfl rfl rfl
abbrev pre_is_truth : List D → Prop
  | [value_] => LV value_
  | _ => False
abbrev post_is_truth : List D → D → Prop
  | [value_], r => r = .bl value_.isB
  | _, _ => False
def u_is_truth (T : Txt K mg a_QUOTING a_SIDES a_BadName i_BadName a_BadNumber i_BadNumber a_BadSaying i_BadSaying a_Letter i_Letter q_Letter) : WS K L2.E0 := (WS.ret (WM.up (WE.isi "bool" (WE.var 0))))
theorem v_is_truth {value_ : D} (T : Txt K mg a_QUOTING a_SIDES a_BadName i_BadName a_BadNumber i_BadNumber a_BadSaying i_BadSaying a_Letter i_Letter q_Letter) (hp : LV value_) : (u_is_truth T).w noX [.dat value_] (retW fun r => r = .bl value_.isB) := by
  unfold u_is_truth
  walk_at "w"

  exact hp.bi
theorem c_is_truth (X : Defs K mg a_QUOTING a_SIDES a_BadName i_BadName a_BadNumber i_BadNumber a_BadSaying i_BadSaying a_Letter i_Letter q_Letter) (T : Txt K mg a_QUOTING a_SIDES a_BadName i_BadName a_BadNumber i_BadNumber a_BadSaying i_BadSaying a_Letter i_Letter q_Letter) : Cal P w K mg base "is_truth" 1 ["value"] [] (SpP K pre_is_truth post_is_truth) := by
  refine cal_W (N := N_is_truth) (u_is_truth T) X.d_is_truth sc_is_truth (fun ds h => ?_) (fun f cdv A outer s H E hr ng => ⟨_, (pss_one (ps_ret (pe_callB (call_isik (K := K)) (by rfl) T.b_isinstance (by decide +kernel) (pa_cons (pv 0) (pa_cons (pe_bltn (v := .ty "bool") (by rfl) T.b_bool (by decide +kernel) rfl) pa_nil))))), rfl⟩) rfl fun ds hp => ?_
  · match ds, h with
    | [_], _ => rfl
  · match ds, hp with
    | [value_], hp => exact w_at (u_is_truth T) (v_is_truth T hp) rfl rfl rfl
abbrev pre_is_made_of : List D → Prop
  | [value_, signs_, most_] => LV value_ ∧ ∃ sg m, signs_ = .str sg ∧ most_ = .int m
  | _ => False
abbrev post_is_made_of : List D → D → Prop
  | [value_, signs_, most_], r => ∃ sg m, signs_ = .str sg ∧ most_ = .int m ∧ r = .bl (madeB sg m value_)
  | _, _ => False
def u_is_made_of (T : Txt K mg a_QUOTING a_SIDES a_BadName i_BadName a_BadNumber i_BadNumber a_BadSaying i_BadSaying a_Letter i_Letter q_Letter) : WS K L2.E0 := (WS.seq (WS.ifS (WT.or (WT.not (WT.b (WE.isi "str" (WE.var 0)))) (WT.not (WT.tst (WE.chain (fun i j => decide (i ≤ j)) (fun i j => decide (i ≤ j)) (WE.int 1) (WE.cb ON.len (WA.cons (WE.var 0) WA.nil)) (WE.var 2)))))
 (WS.ret (WM.up (WE.bl false)))
 WS.next)
 (WS.ret (WM.up (WE.cb ON.all (WA.cons (WE.lc (WI.seq (WE.var 0)) (WG.name 3) WT.yes (WE.op O2.inn (WE.var 3) (WE.var 1)) 999999) WA.nil)))))
theorem v_is_made_of {value_ signs_ most_ : D} (T : Txt K mg a_QUOTING a_SIDES a_BadName i_BadName a_BadNumber i_BadNumber a_BadSaying i_BadSaying a_Letter i_Letter q_Letter) (hp : LV value_ ∧ ∃ sg m, signs_ = .str sg ∧ most_ = .int m) : (u_is_made_of T).w noX [.dat value_, .dat signs_, .dat most_, .un] (retW fun r => ∃ sg m, signs_ = .str sg ∧ most_ = .int m ∧ r = .bl (madeB sg m value_)) := by
  unfold u_is_made_of
  walk_at "w"

  obtain ⟨hv, sg, m, rfl, rfl⟩ := hp
  walk_at "w"
  cases value_ with
  | str z =>
    have hz := hv.len z rfl
    simp [hv.sl]
    refine ⟨fun h1 => ⟨fun h2 => ?_, fun h2 => ?_⟩, fun h1 => ?_⟩
    · simp [madeB]; omega
    · refine LcP.map (fun d => .bl (match d.sign with | some k => decide (k ∈ sg.cps.toList) | none => false)) (by simp; omega) (fun d hd => ?_) ?_
      · obtain ⟨k, hk, rfl⟩ := mem_signs hd
        exact ⟨_, rfl, by walk_at "w"⟩
      · walk_at "w"
        have e1 : decide ((1 : Int) ≤ (z.length : Int)) = true := by simpa using h1
        have e2 : decide ((z.length : Int) ≤ m) = true := by simpa using h2
        simp [DL.signs, madeB, e1, e2, Function.comp_def]
    · simp [madeB]; omega
  | _ => simp [hv.bi, madeB]
theorem c_is_made_of (X : Defs K mg a_QUOTING a_SIDES a_BadName i_BadName a_BadNumber i_BadNumber a_BadSaying i_BadSaying a_Letter i_Letter q_Letter) (T : Txt K mg a_QUOTING a_SIDES a_BadName i_BadName a_BadNumber i_BadNumber a_BadSaying i_BadSaying a_Letter i_Letter q_Letter) : Cal P w K mg base "is_made_of" 1 ["value", "signs", "most"] [] (SpP K pre_is_made_of post_is_made_of) := by
  refine cal_W (N := N_is_made_of) (u_is_made_of T) X.d_is_made_of sc_is_made_of (fun ds h => ?_) (fun f cdv A outer s H E hr ng => ⟨_, (pss_cons (ps_if (PW.pt (pw_or (pt_not (pt_val (pe_callB (call_isik (K := K)) (by rfl) T.b_isinstance (by decide +kernel) (pa_cons (pv 0) (pa_cons (pe_bltn (v := .ty "str") (by rfl) T.b_str (by decide +kernel) rfl) pa_nil))))) (pw_or1 (pt_not (pt_chain op_le op_le pe_int (pe_callB (call_lenk (K := K)) (by rfl) T.b_len (by decide +kernel) (pa_cons (pv 0) pa_nil)) (pv 2)))))) (pss_one (ps_ret pe_bl)) pss_nil)
 (pss_one (ps_ret (pe_callB (cr_allk (K := K) rfl) (by rfl) T.b_all (by decide +kernel) (pa_cons (pe_lc (own := [("sign", 3)]) (g := (gName 3)) (tt := tYes) (by rfl) sc_is_made_of.nd (pi_seqk (K := K) (pv 0)) (blkOk_by (own := [("sign", 3)]) (N := N_is_made_of) (sc := defScope s_is_made_of) (by decide +kernel)) (fun _ _ _ _ _ => (pg_name (i := 3) sc_is_made_of.nd rfl (Or.inl rfl))) (fun _ _ _ _ _ => pts_nil) (fun _ _ _ _ _ => (pe_cmpR (op_inUk (K := K)) (pv 3) (pv 1) (by rfl)))) pa_nil))))), rfl⟩) rfl fun ds hp => ?_
  · match ds, h with
    | [_, _, _], _ => rfl
  · match ds, hp with
    | [value_, signs_, most_], hp => exact w_at (u_is_made_of T) (v_is_made_of T hp) rfl rfl rfl
abbrev pre_is_name : List D → Prop
  | [value_] => LV value_
  | _ => False
abbrev post_is_name : List D → D → Prop
  | [value_], r => r = .bl (nameB value_)
  | _, _ => False
def u_is_name (T : Txt K mg a_QUOTING a_SIDES a_BadName i_BadName a_BadNumber i_BadNumber a_BadSaying i_BadSaying a_Letter i_Letter q_Letter) : WS K L2.E0 := (WS.ret (WM.up (WE.andV (WE.call pre_is_made_of post_is_made_of (WA.cons (WE.var 0) (WA.cons (WE.op O2.add (WE.str "abcdefghijklmnopqrstuvwxyz") (WE.str "0123456789")) (WA.cons (WE.int 12) WA.nil)))) (WE.op O2.inn (WE.op O2.ix (WE.var 0) (WE.int 0)) (WE.str "abcdefghijklmnopqrstuvwxyz")))))
theorem v_is_name {value_ : D} (T : Txt K mg a_QUOTING a_SIDES a_BadName i_BadName a_BadNumber i_BadNumber a_BadSaying i_BadSaying a_Letter i_Letter q_Letter) (hp : LV value_) : (u_is_name T).w noX [.dat value_] (retW fun r => r = .bl (nameB value_)) := by
  unfold u_is_name
  walk_at "w"
  try simp only [pre_is_made_of, post_is_made_of]
  try walk_at "w"
  try simp only [pre_is_made_of, post_is_made_of]
  try walk_at "w"


  refine ⟨by decide, hp, fun h => ?_, fun h => ?_⟩
  · have h' : madeB sLF 12 value_ = true := h
    obtain ⟨z, c, cs, rfl, e, _⟩ := madeB_some h
    have hz := hp.len z rfl
    walk_at "w"
    exact ⟨c, by rw [e]; rfl, by omega, by simp only [nameB, h', headB, e, Bool.true_and]⟩
  · have h' : madeB sLF 12 value_ = false := h
    simp only [nameB, h', Bool.false_and]
theorem c_is_name (X : Defs K mg a_QUOTING a_SIDES a_BadName i_BadName a_BadNumber i_BadNumber a_BadSaying i_BadSaying a_Letter i_Letter q_Letter) (T : Txt K mg a_QUOTING a_SIDES a_BadName i_BadName a_BadNumber i_BadNumber a_BadSaying i_BadSaying a_Letter i_Letter q_Letter) : Cal P w K mg base "is_name" 2 ["value"] [] (SpP K pre_is_name post_is_name) := by
  have c_is_made_of := c_is_made_of (P := P) (w := w) (base := base) X T
  refine cal_W (N := N_is_name) (u_is_name T) X.d_is_name sc_is_name (fun ds h => ?_) (fun f cdv A outer s H E hr ng => ⟨_, (pss_one (ps_ret (pe_and (peg_cal c_is_made_of hr (by decide) ng rfl (pa_cons (pv 0) (pa_cons (pe_op (op_addUk (K := K)) (pe_globE rfl T.g_LETTERS) (pe_globE rfl T.g_FIGURES)) (pa_cons (pe_globE rfl T.g_LONGEST_WORD) pa_nil)))) (pe_one (pe_cmpR (op_inUk (K := K)) (pe_ix (ix_seqk (K := K)) (pv 0) pe_int (fun _ _ => rfl)) (pe_globE rfl T.g_LETTERS) (by rfl)))))), rfl⟩) rfl fun ds hp => ?_
  · match ds, h with
    | [_], _ => rfl
  · match ds, hp with
    | [value_], hp => exact w_at (u_is_name T) (v_is_name T hp) rfl rfl rfl
abbrev pre_is_word : List D → Prop
  | [value_] => LV value_
  | _ => False
abbrev post_is_word : List D → D → Prop
  | [value_], r => r = .bl (wordB value_)
  | _, _ => False
def u_is_word (T : Txt K mg a_QUOTING a_SIDES a_BadName i_BadName a_BadNumber i_BadNumber a_BadSaying i_BadSaying a_Letter i_Letter q_Letter) : WS K L2.E0 := (WS.ret (WM.up (WE.andV (WE.call pre_is_made_of post_is_made_of (WA.cons (WE.var 0) (WA.cons (WE.op O2.add (WE.str "abcdefghijklmnopqrstuvwxyz") (WE.str "0123456789")) (WA.cons (WE.int 12) WA.nil)))) (WE.op O2.nin (WE.var 0) (WE.ktup [(.str "see"), (.str "copy")] T.t_QUOTING (fun _ => (.cons (.str _) (.cons (.str _) .nil))))))))
theorem v_is_word {value_ : D} (T : Txt K mg a_QUOTING a_SIDES a_BadName i_BadName a_BadNumber i_BadNumber a_BadSaying i_BadSaying a_Letter i_Letter q_Letter) (hp : LV value_) : (u_is_word T).w noX [.dat value_] (retW fun r => r = .bl (wordB value_)) := by
  unfold u_is_word
  walk_at "w"
  try simp only [pre_is_made_of, post_is_made_of]
  try walk_at "w"
  try simp only [pre_is_made_of, post_is_made_of]
  try walk_at "w"


  refine ⟨by decide, hp, fun h => ?_, fun h => ?_⟩
  · have h' : madeB sLF 12 value_ = true := h
    obtain ⟨z, c, cs, rfl, e, _⟩ := madeB_some h
    refine ⟨rfl, rfl, ?_⟩
    simp only [wordB, h', quotB, Bool.true_and, inD, inV, D.v, eqV, List.map, List.any, Bool.or_false, strs_or]
  · have h' : madeB sLF 12 value_ = false := h
    simp only [wordB, h', Bool.false_and]
theorem c_is_word (X : Defs K mg a_QUOTING a_SIDES a_BadName i_BadName a_BadNumber i_BadNumber a_BadSaying i_BadSaying a_Letter i_Letter q_Letter) (T : Txt K mg a_QUOTING a_SIDES a_BadName i_BadName a_BadNumber i_BadNumber a_BadSaying i_BadSaying a_Letter i_Letter q_Letter) : Cal P w K mg base "is_word" 2 ["value"] [] (SpP K pre_is_word post_is_word) := by
  have c_is_made_of := c_is_made_of (P := P) (w := w) (base := base) X T
  refine cal_W (N := N_is_word) (u_is_word T) X.d_is_word sc_is_word (fun ds h => ?_) (fun f cdv A outer s H E hr ng => ⟨_, (pss_one (ps_ret (pe_and (peg_cal c_is_made_of hr (by decide) ng rfl (pa_cons (pv 0) (pa_cons (pe_op (op_addUk (K := K)) (pe_globE rfl T.g_LETTERS) (pe_globE rfl T.g_FIGURES)) (pa_cons (pe_globE rfl T.g_LONGEST_WORD) pa_nil)))) (pe_one (pe_cmpR (op_ninUk (K := K)) (pv 0) (pe_globE rfl T.g_QUOTING) (by rfl)))))), rfl⟩) rfl fun ds hp => ?_
  · match ds, h with
    | [_], _ => rfl
  · match ds, hp with
    | [value_], hp => exact w_at (u_is_word T) (v_is_word T hp) rfl rfl rfl
abbrev pre_is_units : List D → Prop
  | [value_] => LV value_
  | _ => False
abbrev post_is_units : List D → D → Prop
  | [value_], r => r = .bl (wholeB 0 (some 24) value_)
  | _, _ => False
def u_is_units (T : Txt K mg a_QUOTING a_SIDES a_BadName i_BadName a_BadNumber i_BadNumber a_BadSaying i_BadSaying a_Letter i_Letter q_Letter) : WS K L2.E0 := (WS.ret (WM.up (WE.call pre_is_whole post_is_whole (WA.cons (WE.var 0) (WA.cons (WE.int 0) (WA.cons (WE.int 24) WA.nil))))))
theorem v_is_units {value_ : D} (T : Txt K mg a_QUOTING a_SIDES a_BadName i_BadName a_BadNumber i_BadNumber a_BadSaying i_BadSaying a_Letter i_Letter q_Letter) (hp : LV value_) : (u_is_units T).w noX [.dat value_] (retW fun r => r = .bl (wholeB 0 (some 24) value_)) := by
  unfold u_is_units
  walk_at "w"
  try simp only [pre_is_whole, post_is_whole]
  try walk_at "w"
  try simp only [pre_is_whole, post_is_whole]
  try walk_at "w"


  simp [hp, hiD]
theorem c_is_units (X : Defs K mg a_QUOTING a_SIDES a_BadName i_BadName a_BadNumber i_BadNumber a_BadSaying i_BadSaying a_Letter i_Letter q_Letter) (T : Txt K mg a_QUOTING a_SIDES a_BadName i_BadName a_BadNumber i_BadNumber a_BadSaying i_BadSaying a_Letter i_Letter q_Letter) : Cal P w K mg base "is_units" 2 ["value"] [] (SpP K pre_is_units post_is_units) := by
  have c_is_whole := c_is_whole (P := P) (w := w) (base := base) X T
  refine cal_W (N := N_is_units) (u_is_units T) X.d_is_units sc_is_units (fun ds h => ?_) (fun f cdv A outer s H E hr ng => ⟨_, (pss_one (ps_ret (peg_cal c_is_whole hr (by decide) ng rfl (pa_cons (pv 0) (pa_cons pe_int (pa_cons (pe_globE rfl T.g_MOST_UNITS) pa_nil)))))), rfl⟩) rfl fun ds hp => ?_
  · match ds, h with
    | [_], _ => rfl
  · match ds, hp with
    | [value_], hp => exact w_at (u_is_units T) (v_is_units T hp) rfl rfl rfl
abbrev pre_is_quoted : List D → Prop
  | [parts_] => prQ parts_
  | _ => False
abbrev post_is_quoted : List D → D → Prop
  | [parts_], r => r = .bl (quB parts_)
  | _, _ => False
def u_is_quoted (T : Txt K mg a_QUOTING a_SIDES a_BadName i_BadName a_BadNumber i_BadNumber a_BadSaying i_BadSaying a_Letter i_Letter q_Letter) : WS K L2.E0 := (WS.ret (WM.up (WE.andV (WE.call pre_is_name post_is_name (WA.cons (WE.op O2.ix (WE.var 0) (WE.int 0)) WA.nil)) (WE.call pre_is_name post_is_name (WA.cons (WE.op O2.ix (WE.var 0) (WE.int 1)) WA.nil)))))
theorem v_is_quoted {parts_ : D} (T : Txt K mg a_QUOTING a_SIDES a_BadName i_BadName a_BadNumber i_BadNumber a_BadSaying i_BadSaying a_Letter i_Letter q_Letter) (hp : prQ parts_) : (u_is_quoted T).w noX [.dat parts_] (retW fun r => r = .bl (quB parts_)) := by
  unfold u_is_quoted
  walk_at "w"
  try simp only [pre_is_name, post_is_name]
  try walk_at "w"
  try simp only [pre_is_name, post_is_name]
  try walk_at "w"


  match parts_, hp with
  | .tup [a, b], hp =>
    walk_at "w"
    exact ⟨hp.1, fun h => ⟨hp.2, by simp [quB, h]⟩, fun h => by simp [quB, h]⟩
theorem c_is_quoted (X : Defs K mg a_QUOTING a_SIDES a_BadName i_BadName a_BadNumber i_BadNumber a_BadSaying i_BadSaying a_Letter i_Letter q_Letter) (T : Txt K mg a_QUOTING a_SIDES a_BadName i_BadName a_BadNumber i_BadNumber a_BadSaying i_BadSaying a_Letter i_Letter q_Letter) : Cal P w K mg base "is_quoted" 3 ["parts"] [] (SpP K pre_is_quoted post_is_quoted) := by
  have c_is_name := c_is_name (P := P) (w := w) (base := base) X T
  refine cal_W (N := N_is_quoted) (u_is_quoted T) X.d_is_quoted sc_is_quoted (fun ds h => ?_) (fun f cdv A outer s H E hr ng => ⟨_, (pss_one (ps_ret (pe_and (peg_cal c_is_name hr (by decide) ng rfl (pa_cons (pe_ix (ix_seqk (K := K)) (pv 0) pe_int (fun _ _ => rfl)) pa_nil)) (pe_one (peg_cal c_is_name hr (by decide) ng rfl (pa_cons (pe_ix (ix_seqk (K := K)) (pv 0) pe_int (fun _ _ => rfl)) pa_nil)))))), rfl⟩) rfl fun ds hp => ?_
  · match ds, h with
    | [_], _ => rfl
  · match ds, hp with
    | [parts_], hp => exact w_at (u_is_quoted T) (v_is_quoted T hp) rfl rfl rfl
abbrev pre_is_subject_text : List D → Prop
  | [value_] => LV value_
  | _ => False
abbrev post_is_subject_text : List D → D → Prop
  | [value_], r => r = .bl (subjB value_)
  | _, _ => False
def u_is_subject_text (T : Txt K mg a_QUOTING a_SIDES a_BadName i_BadName a_BadNumber i_BadNumber a_BadSaying i_BadSaying a_Letter i_Letter q_Letter) : WS K L2.E0 := (WS.seq (WS.ifS (WT.not (WT.b (WE.isi "str" (WE.var 0))))
 (WS.ret (WM.up (WE.bl false)))
 WS.next)
 (WS.seq (WS.asg 1 (WM.up (WE.split (WE.var 0) (WE.str "."))))
 (WS.ret (WM.up (WE.andV (WE.op (O2.cmp fun i j => decide (i < j)) (WE.cb ON.len (WA.cons (WE.var 1) WA.nil)) (WE.int 3)) (WE.cb ON.all (WA.cons (WE.lc (WI.seq (WE.var 1)) (WG.name 2) WT.yes (WE.call pre_is_name post_is_name (WA.cons (WE.var 2) WA.nil)) 999999) WA.nil)))))))
theorem v_is_subject_text {value_ : D} (T : Txt K mg a_QUOTING a_SIDES a_BadName i_BadName a_BadNumber i_BadNumber a_BadSaying i_BadSaying a_Letter i_Letter q_Letter) (hp : LV value_) : (u_is_subject_text T).w noX [.dat value_, .un, .un] (retW fun r => r = .bl (subjB value_)) := by
  unfold u_is_subject_text
  walk_at "w"
  try simp only [pre_is_name, post_is_name]
  try walk_at "w"
  try simp only [pre_is_name, post_is_name]
  try walk_at "w"


  cases value_ with
  | str z =>
    have hz := hp.len z rfl
    simp only [isS_str, Bool.not_true, Bool.true_eq_false, Bool.false_eq_true, false_imp_iff, true_imp_iff, builtin_str, true_and, D.str.injEq, exists_eq_left', len_lst, List.length_map, Option.some.injEq, itemsOf_lst]
    refine ⟨by decide, by omega, fun h => ?_, fun h => ?_⟩
    · have h' : (Txt.split z ".").length < 3 := by have := of_decide_eq_true h; omega
      refine LcP.map (fun d => .bl (nameB d)) (by simp; omega) (fun d hd => ?_) ?_
      · obtain ⟨p, hp', rfl⟩ := List.mem_map.mp hd
        refine ⟨_, rfl, ?_⟩
        walk_at "w"
        have := split_len hp'
        exact ⟨rfl, fun y e => by cases e; omega⟩
      · walk_at "w"
        simp [subjB, h', Function.comp_def]
    · have h' : ¬ (Txt.split z ".").length < 3 := by have := of_decide_eq_false h; omega
      simp [subjB, h']
  | _ => simp [hp.bi, subjB]
theorem c_is_subject_text (X : Defs K mg a_QUOTING a_SIDES a_BadName i_BadName a_BadNumber i_BadNumber a_BadSaying i_BadSaying a_Letter i_Letter q_Letter) (T : Txt K mg a_QUOTING a_SIDES a_BadName i_BadName a_BadNumber i_BadNumber a_BadSaying i_BadSaying a_Letter i_Letter q_Letter) : Cal P w K mg base "is_subject_text" 3 ["value"] [] (SpP K pre_is_subject_text post_is_subject_text) := by
  have c_is_name := c_is_name (P := P) (w := w) (base := base) X T
  refine cal_W (N := N_is_subject_text) (u_is_subject_text T) X.d_is_subject_text sc_is_subject_text (fun ds h => ?_) (fun f cdv A outer s H E hr ng => ⟨_, (pss_cons (ps_if (pt_not (pt_val (pe_callB (call_isik (K := K)) (by rfl) T.b_isinstance (by decide +kernel) (pa_cons (pv 0) (pa_cons (pe_bltn (v := .ty "str") (by rfl) T.b_str (by decide +kernel) rfl) pa_nil))))) (pss_one (ps_ret pe_bl)) pss_nil)
 (pss_cons (ps_set (i := 1) sc_is_subject_text.nd rfl (Or.inl rfl) (pe_split (pv 0) pe_str))
 (pss_one (ps_ret (pe_and (pe_cmpR op_lt (pe_callB (call_lenk (K := K)) (by rfl) T.b_len (by decide +kernel) (pa_cons (pv 1) pa_nil)) pe_int (nomark _)) (pe_one (pe_callB (cr_allk (K := K) rfl) (by rfl) T.b_all (by decide +kernel) (pa_cons (pe_lc (own := [("part", 2)]) (g := (gName 2)) (tt := tYes) (by rfl) sc_is_subject_text.nd (pi_seqk (K := K) (pv 1)) (blkOk_by (own := [("part", 2)]) (N := N_is_subject_text) (sc := defScope s_is_subject_text) (by decide +kernel)) (fun _ _ _ _ _ => (pg_name (i := 2) sc_is_subject_text.nd rfl (Or.inl rfl))) (fun _ _ _ _ _ => pts_nil) (fun _ _ _ _ _ => (peg_cal c_is_name hr (by decide) ng rfl (pa_cons (pv 2) pa_nil)))) pa_nil)))))))), rfl⟩) rfl fun ds hp => ?_
  · match ds, h with
    | [_], _ => rfl
  · match ds, hp with
    | [value_], hp => exact w_at (u_is_subject_text T) (v_is_subject_text T hp) rfl rfl rfl
abbrev pre_is_piece : List D → Prop
  | [value_] => GV value_
  | _ => False
abbrev post_is_piece : List D → D → Prop
  | [value_], r => r = .bl (pieceB value_)
  | _, _ => False
def u_is_piece (T : Txt K mg a_QUOTING a_SIDES a_BadName i_BadName a_BadNumber i_BadNumber a_BadSaying i_BadSaying a_Letter i_Letter q_Letter) : WS K L2.E0 := (WS.seq (WS.ifS (WT.or (WT.not (WT.b (WE.isi "tuple" (WE.var 0)))) (WT.or (WT.tst (WE.op (O2.cmp fun i j => decide (i < j)) (WE.cb ON.len (WA.cons (WE.var 0) WA.nil)) (WE.int 2))) (WT.not (WT.b (WE.isi "str" (WE.op O2.ix (WE.var 0) (WE.int 0)))))))
 (WS.ret (WM.up (WE.bl false)))
 WS.next)
 (WS.seq (WS.ifS (WT.tst (WE.op O2.eq (WE.op O2.ix (WE.var 0) (WE.int 0)) (WE.str "word")))
 (WS.ret (WM.up (WE.andV (WE.op O2.eq (WE.cb ON.len (WA.cons (WE.var 0) WA.nil)) (WE.int 2)) (WE.call pre_is_word post_is_word (WA.cons (WE.op O2.ix (WE.var 0) (WE.int 1)) WA.nil)))))
 WS.next)
 (WS.seq (WS.ifS (WT.tst (WE.op O2.eq (WE.op O2.ix (WE.var 0) (WE.int 0)) (WE.str "see")))
 (WS.ret (WM.up (WE.andV (WE.op O2.eq (WE.cb ON.len (WA.cons (WE.var 0) WA.nil)) (WE.int 3)) (WE.call pre_is_quoted post_is_quoted (WA.cons (WE.sl (WE.var 0) (WO.some (WE.int 1)) WO.none) WA.nil)))))
 WS.next)
 (WS.ret (WM.up (WE.andV (WE.op O2.eq (WE.op O2.ix (WE.var 0) (WE.int 0)) (WE.str "copy")) (WE.andV (WE.op O2.eq (WE.cb ON.len (WA.cons (WE.var 0) WA.nil)) (WE.int 4)) (WE.andV (WE.call pre_is_quoted post_is_quoted (WA.cons (WE.sl (WE.var 0) (WO.some (WE.int 1)) (WO.some (WE.int 3))) WA.nil)) (WE.callD (des := [.non]) pre_is_whole post_is_whole (fun _ => (.cons .non .nil)) (WA.cons (WE.op O2.ix (WE.var 0) (WE.int 3)) (WA.cons (WE.int 1) WA.nil)))))))))))
theorem v_is_piece {value_ : D} (T : Txt K mg a_QUOTING a_SIDES a_BadName i_BadName a_BadNumber i_BadNumber a_BadSaying i_BadSaying a_Letter i_Letter q_Letter) (hp : GV value_) : (u_is_piece T).w noX [.dat value_] (retW fun r => r = .bl (pieceB value_)) := by
  unfold u_is_piece
  walk_at "w"
  try simp only [pre_is_quoted, post_is_quoted, pre_is_whole, post_is_whole, pre_is_word, post_is_word]
  try walk_at "w"
  try simp only [pre_is_quoted, post_is_quoted, pre_is_whole, post_is_whole, pre_is_word, post_is_word]
  try walk_at "w"


  cases value_ with
  | tup ds =>
    have hg := hp.it
    cases ds with
    | nil => simp [pieceB]
    | cons a ds =>
      cases a with
      | str wd =>
        have ha : (D.str wd).ok = true := (hg _ List.mem_cons_self).ok
        have hs : (D.tup (D.str wd :: ds)).seq = true := rfl
        have o1 : (D.str "word").ok = true := by decide +kernel
        have o2 : (D.str "see").ok = true := by decide +kernel
        have o3 : (D.str "copy").ok = true := by decide +kernel
        walk_at "w"
        simp only [ha, hs, o1, o2, o3, true_and]
        rcases ds with _ | ⟨b, _ | ⟨c, _ | ⟨d, _ | ⟨e, l⟩⟩⟩⟩
        · simp [pieceB, pieceT]
        · have hb := LV.of (hg b (by simp))
          by_cases h1 : wd = "word"
          · simp [pieceB, pieceT, h1, hb]
          · simp [pieceB, pieceT, h1]
        · have hb := LV.of (hg b (by simp))
          have hc := LV.of (hg c (by simp))
          by_cases h1 : wd = "see"
          · subst h1; simp [pieceB, pieceT, hb, hc, ne_1, prQ, quB]
          · simp [pieceB, pieceT, h1]
        · have hb := LV.of (hg b (by simp))
          have hc := LV.of (hg c (by simp))
          have hd := LV.of (hg d (by simp))
          by_cases h1 : wd = "copy"
          · subst h1; simp [pieceB, pieceT, hb, hc, hd, hiD, ne_2, ne_3, prQ, quB]; cases h1 : nameB b <;> cases h2 : nameB c <;> simp_all
          · simp [pieceB, pieceT, h1]
        · have e2 : ¬ ((l.length : Int) + 1 + 1 + 1 + 1 + 1 = 2) := by omega
          have e3 : ¬ ((l.length : Int) + 1 + 1 + 1 + 1 + 1 = 3) := by omega
          have e4 : ¬ ((l.length : Int) + 1 + 1 + 1 + 1 + 1 = 4) := by omega
          simp [pieceB, pieceT, e2, e3, e4]
      | _ => simp [pieceB, (hg _ List.mem_cons_self).bi]; (try walk_at "w"); (try simp [(hg _ List.mem_cons_self).bi])
  | _ => simp [hp.bi, pieceB]
theorem c_is_piece (X : Defs K mg a_QUOTING a_SIDES a_BadName i_BadName a_BadNumber i_BadNumber a_BadSaying i_BadSaying a_Letter i_Letter q_Letter) (T : Txt K mg a_QUOTING a_SIDES a_BadName i_BadName a_BadNumber i_BadNumber a_BadSaying i_BadSaying a_Letter i_Letter q_Letter) : Cal P w K mg base "is_piece" 4 ["value"] [] (SpP K pre_is_piece post_is_piece) := by
  have c_is_quoted := c_is_quoted (P := P) (w := w) (base := base) X T
  have c_is_whole_1 := c_is_whole_1 (P := P) (w := w) (base := base) X T
  have c_is_word := c_is_word (P := P) (w := w) (base := base) X T
  refine cal_W (N := N_is_piece) (u_is_piece T) X.d_is_piece sc_is_piece (fun ds h => ?_) (fun f cdv A outer s H E hr ng => ⟨_, (pss_cons (ps_if (PW.pt (pw_or (pt_not (pt_val (pe_callB (call_isik (K := K)) (by rfl) T.b_isinstance (by decide +kernel) (pa_cons (pv 0) (pa_cons (pe_bltn (v := .ty "tuple") (by rfl) T.b_tuple (by decide +kernel) rfl) pa_nil))))) (pw_or (pt_cmpR op_lt (pe_callB (call_lenk (K := K)) (by rfl) T.b_len (by decide +kernel) (pa_cons (pv 0) pa_nil)) pe_int (nomark _)) (pw_or1 (pt_not (pt_val (pe_callB (call_isik (K := K)) (by rfl) T.b_isinstance (by decide +kernel) (pa_cons (pe_ix (ix_seqk (K := K)) (pv 0) pe_int (fun _ _ => rfl)) (pa_cons (pe_bltn (v := .ty "str") (by rfl) T.b_str (by decide +kernel) rfl) pa_nil))))))))) (pss_one (ps_ret pe_bl)) pss_nil)
 (pss_cons (ps_if (pt_cmpR (op_eqDk (K := K) (Room.units hr)) (pe_ix (ix_seqk (K := K)) (pv 0) pe_int (fun _ _ => rfl)) pe_str (nomark _)) (pss_one (ps_ret (pe_and (pe_cmpR (op_eqDk (K := K) (Room.units hr)) (pe_callB (call_lenk (K := K)) (by rfl) T.b_len (by decide +kernel) (pa_cons (pv 0) pa_nil)) pe_int (nomark _)) (pe_one (peg_cal c_is_word hr (by decide) ng rfl (pa_cons (pe_ix (ix_seqk (K := K)) (pv 0) pe_int (fun _ _ => rfl)) pa_nil)))))) pss_nil)
 (pss_cons (ps_if (pt_cmpR (op_eqDk (K := K) (Room.units hr)) (pe_ix (ix_seqk (K := K)) (pv 0) pe_int (fun _ _ => rfl)) pe_str (nomark _)) (pss_one (ps_ret (pe_and (pe_cmpR (op_eqDk (K := K) (Room.units hr)) (pe_callB (call_lenk (K := K)) (by rfl) T.b_len (by decide +kernel) (pa_cons (pv 0) pa_nil)) pe_int (nomark _)) (pe_one (peg_cal c_is_quoted hr (by decide) ng rfl (pa_cons (pe_slice (sl_Uk (K := K)) (pv 0) (po_some pe_int) po_none) pa_nil)))))) pss_nil)
 (pss_one (ps_ret (pe_and (pe_cmpR (op_eqDk (K := K) (Room.units hr)) (pe_ix (ix_seqk (K := K)) (pv 0) pe_int (fun _ _ => rfl)) pe_str (nomark _)) (pe_and (pe_cmpR (op_eqDk (K := K) (Room.units hr)) (pe_callB (call_lenk (K := K)) (by rfl) T.b_len (by decide +kernel) (pa_cons (pv 0) pa_nil)) pe_int (nomark _)) (pe_and (peg_cal c_is_quoted hr (by decide) ng rfl (pa_cons (pe_slice (sl_Uk (K := K)) (pv 0) (po_some pe_int) (po_some pe_int)) pa_nil)) (pe_one (peg_cal c_is_whole_1 hr (by decide) ng rfl (pa_cons (pe_ix (ix_seqk (K := K)) (pv 0) pe_int (fun _ _ => rfl)) (pa_cons pe_int pa_nil)))))))))))), rfl⟩) rfl fun ds hp => ?_
  · match ds, h with
    | [_], _ => rfl
  · match ds, hp with
    | [value_], hp => exact w_at (u_is_piece T) (v_is_piece T hp) rfl rfl rfl
abbrev pre_is_body : List D → Prop
  | [value_] => GV value_
  | _ => False
abbrev post_is_body : List D → D → Prop
  | [value_], r => r = .bl (bodyB value_)
  | _, _ => False
def u_is_body (T : Txt K mg a_QUOTING a_SIDES a_BadName i_BadName a_BadNumber i_BadNumber a_BadSaying i_BadSaying a_Letter i_Letter q_Letter) : WS K L2.E0 := (WS.ret (WM.up (WE.andV (WE.isi "tuple" (WE.var 0)) (WE.andV (WE.op (O2.cmp fun i j => decide (i ≤ j)) (WE.cb ON.len (WA.cons (WE.var 0) WA.nil)) (WE.int 20)) (WE.cb ON.all (WA.cons (WE.lc (WI.seq (WE.var 0)) (WG.name 1) WT.yes (WE.call pre_is_piece post_is_piece (WA.cons (WE.var 1) WA.nil)) 999999) WA.nil))))))
theorem v_is_body {value_ : D} (T : Txt K mg a_QUOTING a_SIDES a_BadName i_BadName a_BadNumber i_BadNumber a_BadSaying i_BadSaying a_Letter i_Letter q_Letter) (hp : GV value_) : (u_is_body T).w noX [.dat value_, .un] (retW fun r => r = .bl (bodyB value_)) := by
  unfold u_is_body
  walk_at "w"
  try simp only [pre_is_piece, post_is_piece]
  try walk_at "w"
  try simp only [pre_is_piece, post_is_piece]
  try walk_at "w"


  cases value_ with
  | tup ds =>
    have hg := hp.it
    simp only [builtin_tup, isT_tup, true_and, true_imp_iff, Bool.true_eq_false, false_imp_iff, and_true, len_tup, Option.some.injEq, exists_eq_left', itemsOf_tup]
    refine ⟨fun h => ?_, fun h => ?_⟩
    · have h' : ds.length ≤ 20 := by have := of_decide_eq_true h; omega
      refine LcP.map (fun d => .bl (pieceB d)) (by omega) (fun d hd => ?_) ?_
      · refine ⟨_, rfl, ?_⟩
        walk_at "w"
        exact hg d hd
      · walk_at "w"
        simp [bodyB, h', Function.comp_def]
    · have h' : ¬ ds.length ≤ 20 := by have := of_decide_eq_false h; omega
      simp [bodyB, h']
  | _ => simp [hp.bi, bodyB]
theorem c_is_body (X : Defs K mg a_QUOTING a_SIDES a_BadName i_BadName a_BadNumber i_BadNumber a_BadSaying i_BadSaying a_Letter i_Letter q_Letter) (T : Txt K mg a_QUOTING a_SIDES a_BadName i_BadName a_BadNumber i_BadNumber a_BadSaying i_BadSaying a_Letter i_Letter q_Letter) : Cal P w K mg base "is_body" 5 ["value"] [] (SpP K pre_is_body post_is_body) := by
  have c_is_piece := c_is_piece (P := P) (w := w) (base := base) X T
  refine cal_W (N := N_is_body) (u_is_body T) X.d_is_body sc_is_body (fun ds h => ?_) (fun f cdv A outer s H E hr ng => ⟨_, (pss_one (ps_ret (pe_and (pe_callB (call_isik (K := K)) (by rfl) T.b_isinstance (by decide +kernel) (pa_cons (pv 0) (pa_cons (pe_bltn (v := .ty "tuple") (by rfl) T.b_tuple (by decide +kernel) rfl) pa_nil))) (pe_and (pe_cmpR op_le (pe_callB (call_lenk (K := K)) (by rfl) T.b_len (by decide +kernel) (pa_cons (pv 0) pa_nil)) (pe_globE rfl T.g_MOST_PIECES) (nomark _)) (pe_one (pe_callB (cr_allk (K := K) rfl) (by rfl) T.b_all (by decide +kernel) (pa_cons (pe_lc (own := [("piece", 1)]) (g := (gName 1)) (tt := tYes) (by rfl) sc_is_body.nd (pi_seqk (K := K) (pv 0)) (blkOk_by (own := [("piece", 1)]) (N := N_is_body) (sc := defScope s_is_body) (by decide +kernel)) (fun _ _ _ _ _ => (pg_name (i := 1) sc_is_body.nd rfl (Or.inl rfl))) (fun _ _ _ _ _ => pts_nil) (fun _ _ _ _ _ => (peg_cal c_is_piece hr (by decide) ng rfl (pa_cons (pv 1) pa_nil)))) pa_nil))))))), rfl⟩) rfl fun ds hp => ?_
  · match ds, h with
    | [_], _ => rfl
  · match ds, hp with
    | [value_], hp => exact w_at (u_is_body T) (v_is_body T hp) rfl rfl rfl
abbrev pre_is_speech : List D → Prop
  | [parts_] => pr3 parts_
  | _ => False
abbrev post_is_speech : List D → D → Prop
  | [parts_], r => r = .bl (speB parts_)
  | _, _ => False
def u_is_speech (T : Txt K mg a_QUOTING a_SIDES a_BadName i_BadName a_BadNumber i_BadNumber a_BadSaying i_BadSaying a_Letter i_Letter q_Letter) : WS K L2.E0 := (WS.seq (WS.asgT (WG.seq (WGs.cons (WG.name 1) (WGs.cons (WG.name 2) (WGs.cons (WG.name 3) WGs.nil)))) (WE.var 0))
 (WS.ret (WM.up (WE.andV (WE.call pre_is_name post_is_name (WA.cons (WE.var 1) WA.nil)) (WE.andV (WE.call pre_is_subject_text post_is_subject_text (WA.cons (WE.var 2) WA.nil)) (WE.andV (WE.isi "str" (WE.var 3)) (WE.op O2.inn (WE.var 3) (WE.ktup [(.str "for"), (.str "against"), (.str "none")] T.t_SIDES (fun _ => (.cons (.str _) (.cons (.str _) (.cons (.str _) .nil))))))))))))
theorem v_is_speech {parts_ : D} (T : Txt K mg a_QUOTING a_SIDES a_BadName i_BadName a_BadNumber i_BadNumber a_BadSaying i_BadSaying a_Letter i_Letter q_Letter) (hp : pr3 parts_) : (u_is_speech T).w noX [.dat parts_, .un, .un, .un] (retW fun r => r = .bl (speB parts_)) := by
  unfold u_is_speech
  walk_at "w"
  try simp only [pre_is_name, post_is_name, pre_is_subject_text, post_is_subject_text]
  try walk_at "w"
  try simp only [pre_is_name, post_is_name, pre_is_subject_text, post_is_subject_text]
  try walk_at "w"


  obtain ⟨a, b, c, he, ha, hb, hc⟩ := pr3_of hp
  have ep : speB parts_ = (nameB a && (subjB b && sideB c)) := by unfold speB; rw [he]
  refine ⟨[(1, a), (2, b), (3, c)], by show (match parts_.its with | some ds => _ | none => none) = _; rw [he]; rfl, ?_⟩
  walk_at "w"
  rw [ep]
  refine ⟨LV.of ha, fun h1 => ⟨LV.of hb, fun h2 => ⟨hc.bi, fun h3 => ?_, fun h3 => ?_⟩, fun h2 => by rw [h1, h2]; rfl⟩, fun h1 => by rw [h1]; rfl⟩
  · cases c with
    | str z =>
      refine ⟨rfl, rfl, ?_⟩
      simp only [h1, h2, sideB, Bool.true_and, inD, inV, D.v, eqV, List.map, List.any, Bool.or_false, strs_or3]
    | _ => cases h3
  · cases c <;> first | (simp [sideB]; done) | cases h3
theorem c_is_speech (X : Defs K mg a_QUOTING a_SIDES a_BadName i_BadName a_BadNumber i_BadNumber a_BadSaying i_BadSaying a_Letter i_Letter q_Letter) (T : Txt K mg a_QUOTING a_SIDES a_BadName i_BadName a_BadNumber i_BadNumber a_BadSaying i_BadSaying a_Letter i_Letter q_Letter) : Cal P w K mg base "is_speech" 4 ["parts"] [] (SpP K pre_is_speech post_is_speech) := by
  have c_is_name := c_is_name (P := P) (w := w) (base := base) X T
  have c_is_subject_text := c_is_subject_text (P := P) (w := w) (base := base) X T
  refine cal_W (N := N_is_speech) (u_is_speech T) X.d_is_speech sc_is_speech (fun ds h => ?_) (fun f cdv A outer s H E hr ng => ⟨_, (pss_cons (ps_asg (pv 0) (pg_seqk (K := K) rfl (pgs_cons (pg_name (i := 1) sc_is_speech.nd rfl (Or.inl rfl)) (pgs_cons (pg_name (i := 2) sc_is_speech.nd rfl (Or.inl rfl)) (pgs_cons (pg_name (i := 3) sc_is_speech.nd rfl (Or.inl rfl)) pgs_nil)))))
 (pss_one (ps_ret (pe_and (peg_cal c_is_name hr (by decide) ng rfl (pa_cons (pv 1) pa_nil)) (pe_and (peg_cal c_is_subject_text hr (by decide) ng rfl (pa_cons (pv 2) pa_nil)) (pe_and (pe_callB (call_isik (K := K)) (by rfl) T.b_isinstance (by decide +kernel) (pa_cons (pv 3) (pa_cons (pe_bltn (v := .ty "str") (by rfl) T.b_str (by decide +kernel) rfl) pa_nil))) (pe_one (pe_cmpR (op_inUk (K := K)) (pv 3) (pe_globE rfl T.g_SIDES) (by rfl))))))))), rfl⟩) rfl fun ds hp => ?_
  · match ds, h with
    | [_], _ => rfl
  · match ds, hp with
    | [parts_], hp => exact w_at (u_is_speech T) (v_is_speech T hp) rfl rfl rfl
abbrev pre_is_post_saying : List D → Prop
  | [parts_] => pr3 parts_
  | _ => False
abbrev post_is_post_saying : List D → D → Prop
  | [parts_], r => r = .bl (pstB parts_)
  | _, _ => False
def u_is_post_saying (T : Txt K mg a_QUOTING a_SIDES a_BadName i_BadName a_BadNumber i_BadNumber a_BadSaying i_BadSaying a_Letter i_Letter q_Letter) : WS K L2.E0 := (WS.seq (WS.asgT (WG.seq (WGs.cons (WG.name 1) (WGs.cons (WG.name 2) (WGs.cons (WG.name 3) WGs.nil)))) (WE.var 0))
 (WS.ret (WM.up (WE.andV (WE.call pre_is_name post_is_name (WA.cons (WE.var 1) WA.nil)) (WE.andV (WE.call pre_is_name post_is_name (WA.cons (WE.var 2) WA.nil)) (WE.call pre_is_body post_is_body (WA.cons (WE.var 3) WA.nil)))))))
theorem v_is_post_saying {parts_ : D} (T : Txt K mg a_QUOTING a_SIDES a_BadName i_BadName a_BadNumber i_BadNumber a_BadSaying i_BadSaying a_Letter i_Letter q_Letter) (hp : pr3 parts_) : (u_is_post_saying T).w noX [.dat parts_, .un, .un, .un] (retW fun r => r = .bl (pstB parts_)) := by
  unfold u_is_post_saying
  walk_at "w"
  try simp only [pre_is_name, post_is_name, pre_is_body, post_is_body]
  try walk_at "w"
  try simp only [pre_is_name, post_is_name, pre_is_body, post_is_body]
  try walk_at "w"


  obtain ⟨a, b, c, he, ha, hb, hc⟩ := pr3_of hp
  have ep : pstB parts_ = (nameB a && (nameB b && bodyB c)) := by unfold pstB; rw [he]
  refine ⟨[(1, a), (2, b), (3, c)], by show (match parts_.its with | some ds => _ | none => none) = _; rw [he]; rfl, ?_⟩
  walk_at "w"
  rw [ep]
  refine ⟨LV.of ha, fun h1 => ⟨LV.of hb, fun h2 => ⟨hc, by rw [h1, h2]; rfl⟩, fun h2 => by rw [h1, h2]; rfl⟩, fun h1 => by rw [h1]; rfl⟩
theorem c_is_post_saying (X : Defs K mg a_QUOTING a_SIDES a_BadName i_BadName a_BadNumber i_BadNumber a_BadSaying i_BadSaying a_Letter i_Letter q_Letter) (T : Txt K mg a_QUOTING a_SIDES a_BadName i_BadName a_BadNumber i_BadNumber a_BadSaying i_BadSaying a_Letter i_Letter q_Letter) : Cal P w K mg base "is_post_saying" 6 ["parts"] [] (SpP K pre_is_post_saying post_is_post_saying) := by
  have c_is_name := c_is_name (P := P) (w := w) (base := base) X T
  have c_is_body := c_is_body (P := P) (w := w) (base := base) X T
  refine cal_W (N := N_is_post_saying) (u_is_post_saying T) X.d_is_post_saying sc_is_post_saying (fun ds h => ?_) (fun f cdv A outer s H E hr ng => ⟨_, (pss_cons (ps_asg (pv 0) (pg_seqk (K := K) rfl (pgs_cons (pg_name (i := 1) sc_is_post_saying.nd rfl (Or.inl rfl)) (pgs_cons (pg_name (i := 2) sc_is_post_saying.nd rfl (Or.inl rfl)) (pgs_cons (pg_name (i := 3) sc_is_post_saying.nd rfl (Or.inl rfl)) pgs_nil)))))
 (pss_one (ps_ret (pe_and (peg_cal c_is_name hr (by decide) ng rfl (pa_cons (pv 1) pa_nil)) (pe_and (peg_cal c_is_name hr (by decide) ng rfl (pa_cons (pv 2) pa_nil)) (pe_one (peg_cal c_is_body hr (by decide) ng rfl (pa_cons (pv 3) pa_nil)))))))), rfl⟩) rfl fun ds hp => ?_
  · match ds, h with
    | [_], _ => rfl
  · match ds, hp with
    | [parts_], hp => exact w_at (u_is_post_saying T) (v_is_post_saying T hp) rfl rfl rfl
local macro_rules | `(tactic| walk_at "say1") => `(tactic| (simp (config := { contextual := true }) [sayT, *, ne_take_vouch, ne_take_circle, ne_take_back, ne_take_block, ne_take_speak, ne_take_post, ne_vouch_take, ne_vouch_circle, ne_vouch_back, ne_vouch_block, ne_vouch_speak, ne_vouch_post, ne_circle_take, ne_circle_vouch, ne_circle_back, ne_circle_block, ne_circle_speak, ne_circle_post, ne_back_take, ne_back_vouch, ne_back_circle, ne_back_block, ne_back_speak, ne_back_post, ne_block_take, ne_block_vouch, ne_block_circle, ne_block_back, ne_block_speak, ne_block_post, ne_speak_take, ne_speak_vouch, ne_speak_circle, ne_speak_back, ne_speak_block, ne_speak_post, ne_post_take, ne_post_vouch, ne_post_circle, ne_post_back, ne_post_block, ne_post_speak]))
local macro_rules | `(tactic| walk_at "say2") => `(tactic| (simp (config := { contextual := true }) [sayT, *, ne_take_vouch, ne_take_circle, ne_take_back, ne_take_block, ne_take_speak, ne_take_post, ne_vouch_take, ne_vouch_circle, ne_vouch_back, ne_vouch_block, ne_vouch_speak, ne_vouch_post, ne_circle_take, ne_circle_vouch, ne_circle_back, ne_circle_block, ne_circle_speak, ne_circle_post, ne_back_take, ne_back_vouch, ne_back_circle, ne_back_block, ne_back_speak, ne_back_post, ne_block_take, ne_block_vouch, ne_block_circle, ne_block_back, ne_block_speak, ne_block_post, ne_speak_take, ne_speak_vouch, ne_speak_circle, ne_speak_back, ne_speak_block, ne_speak_post, ne_post_take, ne_post_vouch, ne_post_circle, ne_post_back, ne_post_block, ne_post_speak]; ))
abbrev pre_is_saying : List D → Prop
  | [value_] => GV value_
  | _ => False
abbrev post_is_saying : List D → D → Prop
  | [value_], r => r = .bl (sayingB value_)
  | _, _ => False
def u_is_saying (T : Txt K mg a_QUOTING a_SIDES a_BadName i_BadName a_BadNumber i_BadNumber a_BadSaying i_BadSaying a_Letter i_Letter q_Letter) : WS K L2.E0 := (WS.seq (WS.ifS (WT.or (WT.not (WT.b (WE.call pre_is_listed post_is_listed (WA.cons (WE.var 0) WA.nil)))) (WT.or (WT.tst (WE.op (O2.cmp fun i j => decide (i < j)) (WE.cb ON.len (WA.cons (WE.var 0) WA.nil)) (WE.int 2))) (WT.not (WT.b (WE.isi "str" (WE.op O2.ix (WE.var 0) (WE.int 0)))))))
 (WS.ret (WM.up (WE.bl false)))
 WS.next)
 (WS.seq (WS.par 1 2 (WE.op O2.ix (WE.var 0) (WE.int 0)) (WE.sl (WE.var 0) (WO.some (WE.int 1)) WO.none))
 (WS.seq (WS.ifS (WT.tst (WE.op O2.eq (WE.var 1) (WE.str "take")))
 (WS.ret (WM.up (WE.andV (WE.op O2.eq (WE.cb ON.len (WA.cons (WE.var 2) WA.nil)) (WE.int 1)) (WE.call pre_is_name post_is_name (WA.cons (WE.op O2.ix (WE.var 2) (WE.int 0)) WA.nil)))))
 WS.next)
 (WS.seq (WS.ifS (WT.tst (WE.op O2.inn (WE.var 1) (WE.tup (WA.cons (WE.str "vouch") (WA.cons (WE.str "circle") WA.nil)))))
 (WS.ret (WM.up (WE.andV (WE.op O2.eq (WE.cb ON.len (WA.cons (WE.var 2) WA.nil)) (WE.int 2)) (WE.andV (WE.call pre_is_name post_is_name (WA.cons (WE.op O2.ix (WE.var 2) (WE.int 0)) WA.nil)) (WE.call pre_is_units post_is_units (WA.cons (WE.op O2.ix (WE.var 2) (WE.int 1)) WA.nil))))))
 WS.next)
 (WS.seq (WS.ifS (WT.tst (WE.op O2.inn (WE.var 1) (WE.tup (WA.cons (WE.str "back") (WA.cons (WE.str "block") WA.nil)))))
 (WS.ret (WM.up (WE.andV (WE.op O2.eq (WE.cb ON.len (WA.cons (WE.var 2) WA.nil)) (WE.int 2)) (WE.andV (WE.call pre_is_name post_is_name (WA.cons (WE.op O2.ix (WE.var 2) (WE.int 0)) WA.nil)) (WE.call pre_is_truth post_is_truth (WA.cons (WE.op O2.ix (WE.var 2) (WE.int 1)) WA.nil))))))
 WS.next)
 (WS.seq (WS.ifS (WT.tst (WE.op O2.eq (WE.var 1) (WE.str "speak")))
 (WS.ret (WM.up (WE.andV (WE.op O2.eq (WE.cb ON.len (WA.cons (WE.var 2) WA.nil)) (WE.int 3)) (WE.call pre_is_speech post_is_speech (WA.cons (WE.var 2) WA.nil)))))
 WS.next)
 (WS.ret (WM.up (WE.andV (WE.op O2.eq (WE.var 1) (WE.str "post")) (WE.andV (WE.op O2.eq (WE.cb ON.len (WA.cons (WE.var 2) WA.nil)) (WE.int 3)) (WE.call pre_is_post_saying post_is_post_saying (WA.cons (WE.var 2) WA.nil))))))))))))
theorem v_is_saying {value_ : D} (T : Txt K mg a_QUOTING a_SIDES a_BadName i_BadName a_BadNumber i_BadNumber a_BadSaying i_BadSaying a_Letter i_Letter q_Letter) (hp : GV value_) : (u_is_saying T).w noX [.dat value_, .un, .un] (retW fun r => r = .bl (sayingB value_)) := by
  unfold u_is_saying
  walk_at "w"
  try simp only [pre_is_post_saying, post_is_post_saying, pre_is_listed, post_is_listed, pre_is_name, post_is_name, pre_is_units, post_is_units, pre_is_truth, post_is_truth, pre_is_speech, post_is_speech]
  try walk_at "w"
  try simp only [pre_is_post_saying, post_is_post_saying, pre_is_listed, post_is_listed, pre_is_name, post_is_name, pre_is_units, post_is_units, pre_is_truth, post_is_truth, pre_is_speech, post_is_speech]
  try walk_at "w"

  cases value_ with
  | tup ds =>
    have hg := hp.it
    cases ds with
    | nil => simp [sayingB, LV.of hp, D.its]
    | cons a ds =>
      cases a with
      | str wd =>
        have ha : (D.str wd).ok = true := (hg _ List.mem_cons_self).ok
        have hs : (D.tup (D.str wd :: ds)).seq = true := rfl
        have o1 : (D.str "take").ok = true := by decide +kernel
        have o2 : (D.str "speak").ok = true := by decide +kernel
        have o3 : (D.str "post").ok = true := by decide +kernel
        have e0 : sayingB (D.tup (D.str wd :: ds)) = sayT wd ds := rfl
        walk_at "w"
        simp only [ha, hs, o1, o2, o3, true_and, LV.of hp, e0, isT_tup, isL_lst, isT_lst, isL_tup, Bool.true_or, Bool.or_true, Bool.not_true, Bool.false_eq_true, Bool.true_eq_false, false_imp_iff, true_imp_iff, and_true, cutD_1, List.drop_succ_cons, List.drop_zero, flat_str, Bool.and_true, inD_cons, inD_nil, Bool.or_false]
        clear hs e0 o1 o2 o3 ha
        rcases ds with _ | ⟨b, _ | ⟨c, _ | ⟨d, _ | ⟨e, l⟩⟩⟩⟩
        · simp [sayT]
        · have hb := LV.of (hg b (by simp))
          walk_at "say1"
        · have hb := LV.of (hg b (by simp))
          have hc := LV.of (hg c (by simp))
          walk_at "say2"
        · have hb := hg b (by simp)
          have hc := hg c (by simp)
          have hd := hg d (by simp)
          have lb := LV.of hb
          have lc := LV.of hc
          have ld := LV.of hd
          have nes1 : ∀ {z : Str}, z = "vouch" ∨ z = "circle" → ¬ z = "speak" ∧ ¬ z = "post" := fun h => by rcases h with rfl | rfl <;> simp [ne_take_vouch, ne_take_circle, ne_take_back, ne_take_block, ne_take_speak, ne_take_post, ne_vouch_take, ne_vouch_circle, ne_vouch_back, ne_vouch_block, ne_vouch_speak, ne_vouch_post, ne_circle_take, ne_circle_vouch, ne_circle_back, ne_circle_block, ne_circle_speak, ne_circle_post, ne_back_take, ne_back_vouch, ne_back_circle, ne_back_block, ne_back_speak, ne_back_post, ne_block_take, ne_block_vouch, ne_block_circle, ne_block_back, ne_block_speak, ne_block_post, ne_speak_take, ne_speak_vouch, ne_speak_circle, ne_speak_back, ne_speak_block, ne_speak_post, ne_post_take, ne_post_vouch, ne_post_circle, ne_post_back, ne_post_block, ne_post_speak]
          have nes2 : ∀ {z : Str}, z = "back" ∨ z = "block" → ¬ z = "speak" ∧ ¬ z = "post" := fun h => by rcases h with rfl | rfl <;> simp [ne_take_vouch, ne_take_circle, ne_take_back, ne_take_block, ne_take_speak, ne_take_post, ne_vouch_take, ne_vouch_circle, ne_vouch_back, ne_vouch_block, ne_vouch_speak, ne_vouch_post, ne_circle_take, ne_circle_vouch, ne_circle_back, ne_circle_block, ne_circle_speak, ne_circle_post, ne_back_take, ne_back_vouch, ne_back_circle, ne_back_block, ne_back_speak, ne_back_post, ne_block_take, ne_block_vouch, ne_block_circle, ne_block_back, ne_block_speak, ne_block_post, ne_speak_take, ne_speak_vouch, ne_speak_circle, ne_speak_back, ne_speak_block, ne_speak_post, ne_post_take, ne_post_vouch, ne_post_circle, ne_post_back, ne_post_block, ne_post_speak]
          simp (config := { contextual := true }) [sayT, *, pr3, speB, pstB, D.its, ne_take_vouch, ne_take_circle, ne_take_back, ne_take_block, ne_take_speak, ne_take_post, ne_vouch_take, ne_vouch_circle, ne_vouch_back, ne_vouch_block, ne_vouch_speak, ne_vouch_post, ne_circle_take, ne_circle_vouch, ne_circle_back, ne_circle_block, ne_circle_speak, ne_circle_post, ne_back_take, ne_back_vouch, ne_back_circle, ne_back_block, ne_back_speak, ne_back_post, ne_block_take, ne_block_vouch, ne_block_circle, ne_block_back, ne_block_speak, ne_block_post, ne_speak_take, ne_speak_vouch, ne_speak_circle, ne_speak_back, ne_speak_block, ne_speak_post, ne_post_take, ne_post_vouch, ne_post_circle, ne_post_back, ne_post_block, ne_post_speak]
        · have e1 : ¬ ((l.length : Int) + 1 + 1 + 1 + 1 = 1) := by omega
          have e2 : ¬ ((l.length : Int) + 1 + 1 + 1 + 1 = 2) := by omega
          have e3 : ¬ ((l.length : Int) + 1 + 1 + 1 + 1 = 3) := by omega
          simp [sayT, e1, e2, e3]
      | _ => simp [sayingB, D.its, (hg _ List.mem_cons_self).bi, LV.of hp]; (try walk_at "w"); (try simp [(hg _ List.mem_cons_self).bi])
  | lst ds =>
    have hg := hp.li
    cases ds with
    | nil => simp [sayingB, LV.of hp, D.its]
    | cons a ds =>
      cases a with
      | str wd =>
        have ha : (D.str wd).ok = true := (hg _ List.mem_cons_self).ok
        have hs : (D.lst (D.str wd :: ds)).seq = true := rfl
        have o1 : (D.str "take").ok = true := by decide +kernel
        have o2 : (D.str "speak").ok = true := by decide +kernel
        have o3 : (D.str "post").ok = true := by decide +kernel
        have e0 : sayingB (D.lst (D.str wd :: ds)) = sayT wd ds := rfl
        walk_at "w"
        simp only [ha, hs, o1, o2, o3, true_and, LV.of hp, e0, isT_tup, isL_lst, isT_lst, isL_tup, Bool.true_or, Bool.or_true, Bool.not_true, Bool.false_eq_true, Bool.true_eq_false, false_imp_iff, true_imp_iff, and_true, cutD_1, List.drop_succ_cons, List.drop_zero, flat_str, Bool.and_true, inD_cons, inD_nil, Bool.or_false]
        clear hs e0 o1 o2 o3 ha
        rcases ds with _ | ⟨b, _ | ⟨c, _ | ⟨d, _ | ⟨e, l⟩⟩⟩⟩
        · simp [sayT]
        · have hb := LV.of (hg b (by simp))
          walk_at "say1"
        · have hb := LV.of (hg b (by simp))
          have hc := LV.of (hg c (by simp))
          walk_at "say2"
        · have hb := hg b (by simp)
          have hc := hg c (by simp)
          have hd := hg d (by simp)
          have lb := LV.of hb
          have lc := LV.of hc
          have ld := LV.of hd
          have nes1 : ∀ {z : Str}, z = "vouch" ∨ z = "circle" → ¬ z = "speak" ∧ ¬ z = "post" := fun h => by rcases h with rfl | rfl <;> simp [ne_take_vouch, ne_take_circle, ne_take_back, ne_take_block, ne_take_speak, ne_take_post, ne_vouch_take, ne_vouch_circle, ne_vouch_back, ne_vouch_block, ne_vouch_speak, ne_vouch_post, ne_circle_take, ne_circle_vouch, ne_circle_back, ne_circle_block, ne_circle_speak, ne_circle_post, ne_back_take, ne_back_vouch, ne_back_circle, ne_back_block, ne_back_speak, ne_back_post, ne_block_take, ne_block_vouch, ne_block_circle, ne_block_back, ne_block_speak, ne_block_post, ne_speak_take, ne_speak_vouch, ne_speak_circle, ne_speak_back, ne_speak_block, ne_speak_post, ne_post_take, ne_post_vouch, ne_post_circle, ne_post_back, ne_post_block, ne_post_speak]
          have nes2 : ∀ {z : Str}, z = "back" ∨ z = "block" → ¬ z = "speak" ∧ ¬ z = "post" := fun h => by rcases h with rfl | rfl <;> simp [ne_take_vouch, ne_take_circle, ne_take_back, ne_take_block, ne_take_speak, ne_take_post, ne_vouch_take, ne_vouch_circle, ne_vouch_back, ne_vouch_block, ne_vouch_speak, ne_vouch_post, ne_circle_take, ne_circle_vouch, ne_circle_back, ne_circle_block, ne_circle_speak, ne_circle_post, ne_back_take, ne_back_vouch, ne_back_circle, ne_back_block, ne_back_speak, ne_back_post, ne_block_take, ne_block_vouch, ne_block_circle, ne_block_back, ne_block_speak, ne_block_post, ne_speak_take, ne_speak_vouch, ne_speak_circle, ne_speak_back, ne_speak_block, ne_speak_post, ne_post_take, ne_post_vouch, ne_post_circle, ne_post_back, ne_post_block, ne_post_speak]
          simp (config := { contextual := true }) [sayT, *, pr3, speB, pstB, D.its, ne_take_vouch, ne_take_circle, ne_take_back, ne_take_block, ne_take_speak, ne_take_post, ne_vouch_take, ne_vouch_circle, ne_vouch_back, ne_vouch_block, ne_vouch_speak, ne_vouch_post, ne_circle_take, ne_circle_vouch, ne_circle_back, ne_circle_block, ne_circle_speak, ne_circle_post, ne_back_take, ne_back_vouch, ne_back_circle, ne_back_block, ne_back_speak, ne_back_post, ne_block_take, ne_block_vouch, ne_block_circle, ne_block_back, ne_block_speak, ne_block_post, ne_speak_take, ne_speak_vouch, ne_speak_circle, ne_speak_back, ne_speak_block, ne_speak_post, ne_post_take, ne_post_vouch, ne_post_circle, ne_post_back, ne_post_block, ne_post_speak]
        · have e1 : ¬ ((l.length : Int) + 1 + 1 + 1 + 1 = 1) := by omega
          have e2 : ¬ ((l.length : Int) + 1 + 1 + 1 + 1 = 2) := by omega
          have e3 : ¬ ((l.length : Int) + 1 + 1 + 1 + 1 = 3) := by omega
          simp [sayT, e1, e2, e3]
      | _ => simp [sayingB, D.its, (hg _ List.mem_cons_self).bi, LV.of hp]; (try walk_at "w"); (try simp [(hg _ List.mem_cons_self).bi])
  | _ => simp [LV.of hp, sayingB, D.its]
theorem c_is_saying (X : Defs K mg a_QUOTING a_SIDES a_BadName i_BadName a_BadNumber i_BadNumber a_BadSaying i_BadSaying a_Letter i_Letter q_Letter) (T : Txt K mg a_QUOTING a_SIDES a_BadName i_BadName a_BadNumber i_BadNumber a_BadSaying i_BadSaying a_Letter i_Letter q_Letter) : Cal P w K mg base "is_saying" 7 ["value"] [] (SpP K pre_is_saying post_is_saying) := by
  have c_is_post_saying := c_is_post_saying (P := P) (w := w) (base := base) X T
  have c_is_listed := c_is_listed (P := P) (w := w) (base := base) X T
  have c_is_name := c_is_name (P := P) (w := w) (base := base) X T
  have c_is_units := c_is_units (P := P) (w := w) (base := base) X T
  have c_is_truth := c_is_truth (P := P) (w := w) (base := base) X T
  have c_is_speech := c_is_speech (P := P) (w := w) (base := base) X T
  refine cal_W (N := N_is_saying) (u_is_saying T) X.d_is_saying sc_is_saying (fun ds h => ?_) (fun f cdv A outer s H E hr ng => ⟨_, (pss_cons (ps_if (PW.pt (pw_or (pt_not (pt_val (peg_cal c_is_listed hr (by decide) ng rfl (pa_cons (pv 0) pa_nil)))) (pw_or (pt_cmpR op_lt (pe_callB (call_lenk (K := K)) (by rfl) T.b_len (by decide +kernel) (pa_cons (pv 0) pa_nil)) pe_int (nomark _)) (pw_or1 (pt_not (pt_val (pe_callB (call_isik (K := K)) (by rfl) T.b_isinstance (by decide +kernel) (pa_cons (pe_ix (ix_seqk (K := K)) (pv 0) pe_int (fun _ _ => rfl)) (pa_cons (pe_bltn (v := .ty "str") (by rfl) T.b_str (by decide +kernel) rfl) pa_nil))))))))) (pss_one (ps_ret pe_bl)) pss_nil)
 (pss_cons (ps_par rfl sc_is_saying.nd rfl rfl (by decide) rfl rfl (pa_cons (pe_ix (ix_seqk (K := K)) (pv 0) pe_int (fun _ _ => rfl)) (pa_cons (pe_slice (sl_Uk (K := K)) (pv 0) (po_some pe_int) po_none) pa_nil)) (by rfl))
 (pss_cons (ps_if (pt_cmpR (op_eqDk (K := K) (Room.units hr)) (pv 1) pe_str (nomark _)) (pss_one (ps_ret (pe_and (pe_cmpR (op_eqDk (K := K) (Room.units hr)) (pe_callB (call_lenk (K := K)) (by rfl) T.b_len (by decide +kernel) (pa_cons (pv 2) pa_nil)) pe_int (nomark _)) (pe_one (peg_cal c_is_name hr (by decide) ng rfl (pa_cons (pe_ix (ix_seqk (K := K)) (pv 2) pe_int (fun _ _ => rfl)) pa_nil)))))) pss_nil)
 (pss_cons (ps_if (pt_cmpR (op_inUk (K := K)) (pv 1) (pe_tup (pa_cons pe_str (pa_cons pe_str pa_nil))) (by rfl)) (pss_one (ps_ret (pe_and (pe_cmpR (op_eqDk (K := K) (Room.units hr)) (pe_callB (call_lenk (K := K)) (by rfl) T.b_len (by decide +kernel) (pa_cons (pv 2) pa_nil)) pe_int (nomark _)) (pe_and (peg_cal c_is_name hr (by decide) ng rfl (pa_cons (pe_ix (ix_seqk (K := K)) (pv 2) pe_int (fun _ _ => rfl)) pa_nil)) (pe_one (peg_cal c_is_units hr (by decide) ng rfl (pa_cons (pe_ix (ix_seqk (K := K)) (pv 2) pe_int (fun _ _ => rfl)) pa_nil))))))) pss_nil)
 (pss_cons (ps_if (pt_cmpR (op_inUk (K := K)) (pv 1) (pe_tup (pa_cons pe_str (pa_cons pe_str pa_nil))) (by rfl)) (pss_one (ps_ret (pe_and (pe_cmpR (op_eqDk (K := K) (Room.units hr)) (pe_callB (call_lenk (K := K)) (by rfl) T.b_len (by decide +kernel) (pa_cons (pv 2) pa_nil)) pe_int (nomark _)) (pe_and (peg_cal c_is_name hr (by decide) ng rfl (pa_cons (pe_ix (ix_seqk (K := K)) (pv 2) pe_int (fun _ _ => rfl)) pa_nil)) (pe_one (peg_cal c_is_truth hr (by decide) ng rfl (pa_cons (pe_ix (ix_seqk (K := K)) (pv 2) pe_int (fun _ _ => rfl)) pa_nil))))))) pss_nil)
 (pss_cons (ps_if (pt_cmpR (op_eqDk (K := K) (Room.units hr)) (pv 1) pe_str (nomark _)) (pss_one (ps_ret (pe_and (pe_cmpR (op_eqDk (K := K) (Room.units hr)) (pe_callB (call_lenk (K := K)) (by rfl) T.b_len (by decide +kernel) (pa_cons (pv 2) pa_nil)) pe_int (nomark _)) (pe_one (peg_cal c_is_speech hr (by decide) ng rfl (pa_cons (pv 2) pa_nil)))))) pss_nil)
 (pss_one (ps_ret (pe_and (pe_cmpR (op_eqDk (K := K) (Room.units hr)) (pv 1) pe_str (nomark _)) (pe_and (pe_cmpR (op_eqDk (K := K) (Room.units hr)) (pe_callB (call_lenk (K := K)) (by rfl) T.b_len (by decide +kernel) (pa_cons (pv 2) pa_nil)) pe_int (nomark _)) (pe_one (peg_cal c_is_post_saying hr (by decide) ng rfl (pa_cons (pv 2) pa_nil))))))))))))), rfl⟩) rfl fun ds hp => ?_
  · match ds, h with
    | [_], _ => rfl
  · match ds, hp with
    | [value_], hp => exact w_at (u_is_saying T) (v_is_saying T hp) rfl rfl rfl
end
end K23
set_option maxRecDepth 100000
set_option maxHeartbeats 8000000
namespace K23
open PySem L2 PyProof.Rows DL
section
variable {P : Program} {w : World} {K : PySem.W.Frag} {mg : Str → Option Value} {base : Heap} {a_QUOTING a_SIDES a_BadName i_BadName a_BadNumber i_BadNumber a_BadSaying i_BadSaying a_Letter i_Letter q_Letter : Addr}
local macro_rules | `(tactic| walk_at "w") => `(tactic| simp only [DL.w_var, DL.w_int, DL.w_bl, DL.w_str, DL.w_non, DL.w_ktup, DL.w_op, DL.w_neg, DL.w_chain, DL.w_nil, DL.w_cons, DL.w_tup, DL.w_lst, DL.w_tst, DL.w_tb, DL.w_not, DL.w_yes, DL.w_and, DL.w_or, DL.w_andV, DL.w_orV, DL.w_notV, DL.w_ite, DL.w_none, DL.w_some, DL.w_sl, DL.w_cb, DL.w_isi, DL.w_isi2, DL.w_call, DL.w_callD, DL.w_callX, DL.w_callG, DL.w_split, DL.w_dget, DL.w_dnil, DL.w_dcons, DL.ks_nil, DL.ks_cons, DL.w_disp, DL.w_seqI, DL.w_rng1, DL.w_rng2, DL.w_enum, DL.w_zip, DL.w_lc, DL.w_borrow, DL.w_up, DL.w_popAt, DL.w_next, DL.w_brk, DL.w_cont, DL.w_seq, DL.w_ret, DL.w_retN, DL.w_asg, DL.w_asgT, DL.w_asgOwn, DL.w_drop, DL.w_ifS, DL.w_append, DL.w_frz, frzAt_0, frzAt_d, frzAt_u, frzAt_s, DL.w_forS, DL.w_par, DL.w_parLE,
  DL.q_int, DL.q_cmp, DL.q_intC, DL.q_addI, DL.q_addS, DL.q_addT, DL.q_addL, DL.q_mulI, DL.q_mulS, DL.q_mulL, DL.q_eq, DL.q_ne, DL.q_isN, DL.q_isB, DL.q_notN, DL.q_inT, DL.q_inL, DL.q_inS, DL.q_ninT, DL.q_ninL, DL.q_ninS, DL.q_ixL, DL.q_ixT, DL.q_ixS, DL.n_len, DL.n_list, DL.n_tuple, DL.n_all, DL.n_any, DL.n_sum, DL.n_sortedS, DL.n_min2, DL.n_max2, DL.n_int1, DL.n_strI, DL.n_repr, DL.g_name, DL.is_name, cut_tup, cut_lst,  isi_str, isi_int, isi_bool, isi_tuple, isi_list,
  datAt_0, datAt_s, ownAt_0, ownAt_s, penIs_0, penIs_s, setD_nil, setD_cons, wipeG, List.set_cons_zero, List.set_cons_succ, List.set_nil, List.map_cons, List.map_nil, List.cons_append, List.nil_append,
  D.bl.injEq, D.int.injEq, D.str.injEq, exists_eq_left', exists_eq_left, exists_and_left, exists_eq', exists_eq, true_and, and_true, true_imp_iff, false_imp_iff, Bool.true_eq_false, Bool.false_eq_true, forall_const, Bool.not_true, Bool.not_false, List.length_cons, List.length_nil, eqv_str, eqv_int, ok_int, ok_bl, ok_non, forall_eq, atI_0, atI_1, atI_2, atI_3, List.getElem?_cons_zero, List.getElem?_cons_succ, List.getElem?_nil, Option.some.injEq, Sk.own.injEq, len_tup, len_lst, its_tup, its_lst, itemsOf_tup, itemsOf_lst, itemsOf_str, isS_str, isT_tup, isL_lst, isI_int, isB_bl, builtin_str, builtin_tup, builtin_lst, builtin_int, builtin_bl, builtin_non, D.sign_one, List.all_cons, List.all_nil, Bool.and_true])

abbrev pre_law_is_name : List D → Prop
  | [value_] => GV value_
  | _ => False
abbrev post_law_is_name : List D → D → Prop
  | [value_], r => r = .bl (nameB value_)
  | _, _ => False
def u_law_is_name (T : Txt K mg a_QUOTING a_SIDES a_BadName i_BadName a_BadNumber i_BadNumber a_BadSaying i_BadSaying a_Letter i_Letter q_Letter) : WS K L2.E0 := (WS.seq (WS.ifS (WT.or (WT.not (WT.b (WE.isi "str" (WE.var 0)))) (WT.not (WT.tst (WE.chain (fun i j => decide (i ≤ j)) (fun i j => decide (i ≤ j)) (WE.int 1) (WE.cb ON.len (WA.cons (WE.var 0) WA.nil)) (WE.int 12)))))
 (WS.ret (WM.up (WE.bl false)))
 WS.next)
 (WS.seq (WS.asg 1 (WM.up (WE.str "abcdefghijklmnopqrstuvwxyz")))
 (WS.ret (WM.up (WE.andV (WE.op O2.inn (WE.op O2.ix (WE.var 0) (WE.int 0)) (WE.var 1)) (WE.op O2.eq (WE.lc (WI.seq (WE.var 0)) (WG.name 2) (WT.tst (WE.op O2.nin (WE.var 2) (WE.op O2.add (WE.var 1) (WE.str "0123456789")))) (WE.var 2) 999999) (WE.lst WA.nil)))))))
theorem v_law_is_name {value_ : D} (T : Txt K mg a_QUOTING a_SIDES a_BadName i_BadName a_BadNumber i_BadNumber a_BadSaying i_BadSaying a_Letter i_Letter q_Letter) (hp : GV value_) : (u_law_is_name T).w noX [.dat value_, .un, .un] (retW fun r => r = .bl (nameB value_)) := by
  unfold u_law_is_name
  walk_at "w"


  cases value_ with
  | str z =>
    have hz : z.length ≤ 999999 := (LV.of hp).len z rfl
    have sl := (LV.of hp).sl
    simp only [isS_str, builtin_str, sl, Option.some.injEq, exists_eq_left', Bool.not_true, true_and, true_imp_iff, false_imp_iff, and_true, Bool.true_eq_false, Bool.false_eq_true, itemsOf_str, len_tup, len_lst, isT_tup, isL_lst, Bool.true_or]
    refine ⟨fun h1 => ⟨fun h2 => ?_, fun h2 => ?_⟩, fun h1 => ?_⟩
    · rw [nameB_len (.inr (by simpa using h2))]
    · have h1' := of_decide_eq_true h1
      have h2' : (z.length : Int) ≤ 12 := by simpa using h2
      obtain ⟨c, cs, e⟩ := cons_of h1'
      walk_at "w"
      have eh : headB (.str z) = decide (c ∈ sLET.cps.toList) := by simp only [headB, e]
      refine ⟨c, by rw [e]; rfl, by omega, fun h3 => ?_, fun h3 => ?_⟩
      · have h3' : headB (.str z) = true := eh.trans h3
        refine lc_not (n := 12) (inSign sLF) (by simp; omega) (by simp) (fun d hd => ?_) (fun d hd => ?_) ?_
        · obtain ⟨k, hk, rfl⟩ := mem_signs hd
          exact sign_gd hp hk
        · obtain ⟨k, hk, rfl⟩ := mem_signs hd
          walk_at "w"
          exact ⟨by decide, rfl⟩
        · rw [all_signs, nameB, h3', madeB_in h1' h2', Bool.and_true]
      · have h3' : headB (.str z) = false := eh.trans h3
        rw [nameB, h3', Bool.and_false]
    · rw [nameB_len (.inl (of_decide_eq_false h1))]
  | _ => simp [hp.bi, nameB, madeB]
theorem c_law_is_name (X : Defs K mg a_QUOTING a_SIDES a_BadName i_BadName a_BadNumber i_BadNumber a_BadSaying i_BadSaying a_Letter i_Letter q_Letter) (T : Txt K mg a_QUOTING a_SIDES a_BadName i_BadName a_BadNumber i_BadNumber a_BadSaying i_BadSaying a_Letter i_Letter q_Letter) : Cal P w K mg base "_law_is_name" 1 ["value"] [] (SpP K pre_law_is_name post_law_is_name) := by
  refine cal_W (N := N_law_is_name) (u_law_is_name T) X.d_law_is_name sc_law_is_name (fun ds h => ?_) (fun f cdv A outer s H E hr ng => ⟨_, (pss_cons (ps_if (PW.pt (pw_or (pt_not (pt_val (pe_callB (call_isik (K := K)) (by rfl) T.b_isinstance (by decide +kernel) (pa_cons (pv 0) (pa_cons (pe_bltn (v := .ty "str") (by rfl) T.b_str (by decide +kernel) rfl) pa_nil))))) (pw_or1 (pt_not (pt_chain op_le op_le pe_int (pe_callB (call_lenk (K := K)) (by rfl) T.b_len (by decide +kernel) (pa_cons (pv 0) pa_nil)) pe_int))))) (pss_one (ps_ret pe_bl)) pss_nil)
 (pss_cons (ps_set (i := 1) sc_law_is_name.nd rfl (Or.inr rfl) pe_str)
 (pss_one (ps_ret (pe_and (pe_cmpR (op_inUk (K := K)) (pe_ix (ix_seqk (K := K)) (pv 0) pe_int (fun _ _ => rfl)) (pv 1) (by rfl)) (pe_one (pe_cmpR (op_eqDk (K := K) (Room.units hr)) (pe_lc (own := [("sign", 2)]) (g := (gName 2)) (by rfl) sc_law_is_name.nd (pi_seqk (K := K) (pv 0)) (blkOk_by (own := [("sign", 2)]) (N := N_law_is_name) (sc := defScope s_law_is_name) (by decide +kernel)) (fun _ _ _ _ _ => (pg_name (i := 2) sc_law_is_name.nd rfl (Or.inl rfl))) (fun _ _ _ _ _ => (pts_one (pt_cmpR (op_ninUk (K := K)) (pv 2) (pe_op (op_addUk (K := K)) (pv 1) pe_str) (by rfl)))) (fun _ _ _ _ _ => (pv 2))) (pe_lst pa_nil) (nomark _)))))))), rfl⟩) rfl fun ds hp => ?_
  · match ds, h with
    | [_], _ => rfl
  · match ds, hp with
    | [value_], hp => exact w_at (u_law_is_name T) (v_law_is_name T hp) rfl rfl rfl
abbrev pre_law_is_whole : List D → Prop
  | [value_, low_, high_] => LV value_ ∧ ∃ lo hi, low_ = .int lo ∧ hiD high_ = some hi
  | _ => False
abbrev post_law_is_whole : List D → D → Prop
  | [value_, low_, high_], r => ∃ lo hi, low_ = .int lo ∧ hiD high_ = some hi ∧ r = .bl (wholeB lo hi value_)
  | _, _ => False
def u_law_is_whole (T : Txt K mg a_QUOTING a_SIDES a_BadName i_BadName a_BadNumber i_BadNumber a_BadSaying i_BadSaying a_Letter i_Letter q_Letter) : WS K L2.E0 := (WS.seq (WS.ifS (WT.or (WT.not (WT.b (WE.isi "int" (WE.var 0)))) (WT.b (WE.isi "bool" (WE.var 0))))
 (WS.ret (WM.up (WE.bl false)))
 WS.next)
 (WS.ret (WM.up (WE.andV (WE.op (O2.cmp fun i j => decide (j ≤ i)) (WE.var 0) (WE.var 1)) (WE.orV (WE.op O2.isU (WE.var 2) WE.non) (WE.op (O2.cmp fun i j => decide (i ≤ j)) (WE.var 0) (WE.var 2)))))))
theorem v_law_is_whole {value_ low_ high_ : D} (T : Txt K mg a_QUOTING a_SIDES a_BadName i_BadName a_BadNumber i_BadNumber a_BadSaying i_BadSaying a_Letter i_Letter q_Letter) (hp : LV value_ ∧ ∃ lo hi, low_ = .int lo ∧ hiD high_ = some hi) : (u_law_is_whole T).w noX [.dat value_, .dat low_, .dat high_] (retW fun r => ∃ lo hi, low_ = .int lo ∧ hiD high_ = some hi ∧ r = .bl (wholeB lo hi value_)) := by
  unfold u_law_is_whole
  walk_at "w"

  obtain ⟨hv, lo, hi, rfl, hm⟩ := hp
  cases value_ with
  | int i =>
    cases high_ with
    | non => cases hm; simp [wholeB, hiD, DL.q_cmp] <;> omega
    | int h => cases hm; simp [wholeB, hiD]; walk_at "w"; simp <;> omega
    | _ => cases hm
  | _ => simp [hv.bi, wholeB, hm]
theorem c_law_is_whole (X : Defs K mg a_QUOTING a_SIDES a_BadName i_BadName a_BadNumber i_BadNumber a_BadSaying i_BadSaying a_Letter i_Letter q_Letter) (T : Txt K mg a_QUOTING a_SIDES a_BadName i_BadName a_BadNumber i_BadNumber a_BadSaying i_BadSaying a_Letter i_Letter q_Letter) : Cal P w K mg base "_law_is_whole" 1 ["value", "low", "high"] [] (SpP K pre_law_is_whole post_law_is_whole) := by
  refine cal_W (N := N_law_is_whole) (u_law_is_whole T) X.d_law_is_whole sc_law_is_whole (fun ds h => ?_) (fun f cdv A outer s H E hr ng => ⟨_, (pss_cons (ps_if (PW.pt (pw_or (pt_not (pt_val (pe_callB (call_isik (K := K)) (by rfl) T.b_isinstance (by decide +kernel) (pa_cons (pv 0) (pa_cons (pe_bltn (v := .ty "int") (by rfl) T.b_int (by decide +kernel) rfl) pa_nil))))) (pw_or1 (pt_val (pe_callB (call_isik (K := K)) (by rfl) T.b_isinstance (by decide +kernel) (pa_cons (pv 0) (pa_cons (pe_bltn (v := .ty "bool") (by rfl) T.b_bool (by decide +kernel) rfl) pa_nil))))))) (pss_one (ps_ret pe_bl)) pss_nil)
 (pss_one (ps_ret (pe_and (pe_cmpR op_ge (pv 0) (pv 1) (nomark _)) (pe_one (pe_or (pe_cmpR op_isU (pv 2) pe_non (nomark _)) (pe_one (pe_cmpR op_le (pv 0) (pv 2) (nomark _))))))))), rfl⟩) rfl fun ds hp => ?_
  · match ds, h with
    | [_, _, _], _ => rfl
  · match ds, hp with
    | [value_, low_, high_], hp => exact w_at (u_law_is_whole T) (v_law_is_whole T hp) rfl rfl rfl
abbrev pre_law_is_subject : List D → Prop
  | [value_] => GV value_
  | _ => False
abbrev post_law_is_subject : List D → D → Prop
  | [value_], r => r = .bl (subjB value_)
  | _, _ => False
def u_law_is_subject (T : Txt K mg a_QUOTING a_SIDES a_BadName i_BadName a_BadNumber i_BadNumber a_BadSaying i_BadSaying a_Letter i_Letter q_Letter) : WS K L2.E0 := (WS.seq (WS.ifS (WT.not (WT.b (WE.isi "str" (WE.var 0))))
 (WS.ret (WM.up (WE.bl false)))
 WS.next)
 (WS.seq (WS.asg 1 (WM.up (WE.split (WE.var 0) (WE.str "."))))
 (WS.ret (WM.up (WE.andV (WE.op O2.inn (WE.cb ON.len (WA.cons (WE.var 1) WA.nil)) (WE.lst (WA.cons (WE.int 1) (WA.cons (WE.int 2) WA.nil)))) (WE.op O2.eq (WE.lc (WI.seq (WE.var 1)) (WG.name 2) (WT.not (WT.b (WE.call pre_law_is_name post_law_is_name (WA.cons (WE.var 2) WA.nil)))) (WE.var 2) 999999) (WE.lst WA.nil)))))))
theorem v_law_is_subject {value_ : D} (T : Txt K mg a_QUOTING a_SIDES a_BadName i_BadName a_BadNumber i_BadNumber a_BadSaying i_BadSaying a_Letter i_Letter q_Letter) (hp : GV value_) : (u_law_is_subject T).w noX [.dat value_, .un, .un] (retW fun r => r = .bl (subjB value_)) := by
  unfold u_law_is_subject
  walk_at "w"
  try simp only [pre_law_is_name, post_law_is_name]
  try walk_at "w"
  try simp only [pre_law_is_name, post_law_is_name]
  try walk_at "w"


  cases value_ with
  | str z =>
    have hz : z.length ≤ 999999 := (LV.of hp).len z rfl
    simp only [isS_str, Bool.not_true, Bool.true_eq_false, Bool.false_eq_true, false_imp_iff, true_imp_iff, builtin_str, true_and, D.str.injEq, exists_eq_left', len_lst, List.length_map, Option.some.injEq, itemsOf_lst, flat_int, Bool.and_true, inD_int, inD_nil, Bool.or_false]
    refine ⟨by decide, by omega, by decide, fun h => ?_, fun h => ?_⟩
    · have h' : (Txt.split z ".").length < 3 := by simp at h; omega
      refine lc_not (n := 10000000) nameB (by simp; omega) (by simp) (fun d hd => ?_) (fun d hd => ?_) ?_
      · obtain ⟨p, hp', rfl⟩ := List.mem_map.mp hd
        exact split_ok hp' hp
      · obtain ⟨p, hp', rfl⟩ := List.mem_map.mp hd
        walk_at "w"
        exact split_ok hp' hp
      · simp [subjB, h', Function.comp_def]
    · have h' : ¬ (Txt.split z ".").length < 3 := by
        have := split_pos (x := z) (y := ".")
        simp at h; omega
      simp [subjB, h']
  | _ => simp [hp.bi, subjB]
theorem c_law_is_subject (X : Defs K mg a_QUOTING a_SIDES a_BadName i_BadName a_BadNumber i_BadNumber a_BadSaying i_BadSaying a_Letter i_Letter q_Letter) (T : Txt K mg a_QUOTING a_SIDES a_BadName i_BadName a_BadNumber i_BadNumber a_BadSaying i_BadSaying a_Letter i_Letter q_Letter) : Cal P w K mg base "_law_is_subject" 2 ["value"] [] (SpP K pre_law_is_subject post_law_is_subject) := by
  have c_law_is_name := c_law_is_name (P := P) (w := w) (base := base) X T
  refine cal_W (N := N_law_is_subject) (u_law_is_subject T) X.d_law_is_subject sc_law_is_subject (fun ds h => ?_) (fun f cdv A outer s H E hr ng => ⟨_, (pss_cons (ps_if (pt_not (pt_val (pe_callB (call_isik (K := K)) (by rfl) T.b_isinstance (by decide +kernel) (pa_cons (pv 0) (pa_cons (pe_bltn (v := .ty "str") (by rfl) T.b_str (by decide +kernel) rfl) pa_nil))))) (pss_one (ps_ret pe_bl)) pss_nil)
 (pss_cons (ps_set (i := 1) sc_law_is_subject.nd rfl (Or.inl rfl) (pe_split (pv 0) pe_str))
 (pss_one (ps_ret (pe_and (pe_cmpR (op_inUk (K := K)) (pe_callB (call_lenk (K := K)) (by rfl) T.b_len (by decide +kernel) (pa_cons (pv 1) pa_nil)) (pe_lst (pa_cons pe_int (pa_cons pe_int pa_nil))) (by rfl)) (pe_one (pe_cmpR (op_eqDk (K := K) (Room.units hr)) (pe_lc (own := [("part", 2)]) (g := (gName 2)) (by rfl) sc_law_is_subject.nd (pi_seqk (K := K) (pv 1)) (blkOk_by (own := [("part", 2)]) (N := N_law_is_subject) (sc := defScope s_law_is_subject) (by decide +kernel)) (fun _ _ _ _ _ => (pg_name (i := 2) sc_law_is_subject.nd rfl (Or.inl rfl))) (fun _ _ _ _ _ => (pts_one (pt_not (pt_val (peg_cal c_law_is_name hr (by decide) ng rfl (pa_cons (pv 2) pa_nil)))))) (fun _ _ _ _ _ => (pv 2))) (pe_lst pa_nil) (nomark _)))))))), rfl⟩) rfl fun ds hp => ?_
  · match ds, h with
    | [_], _ => rfl
  · match ds, hp with
    | [value_], hp => exact w_at (u_law_is_subject T) (v_law_is_subject T hp) rfl rfl rfl
abbrev pre_law_is_piece : List D → Prop
  | [value_] => GV value_
  | _ => False
abbrev post_law_is_piece : List D → D → Prop
  | [value_], r => r = .bl (pieceB value_)
  | _, _ => False
def u_law_is_piece (T : Txt K mg a_QUOTING a_SIDES a_BadName i_BadName a_BadNumber i_BadNumber a_BadSaying i_BadSaying a_Letter i_Letter q_Letter) : WS K L2.E0 := (WS.seq (WS.ifS (WT.or (WT.not (WT.b (WE.isi "tuple" (WE.var 0)))) (WT.or (WT.tst (WE.op O2.eq (WE.cb ON.len (WA.cons (WE.var 0) WA.nil)) (WE.int 0))) (WT.not (WT.b (WE.isi "str" (WE.op O2.ix (WE.var 0) (WE.int 0)))))))
 (WS.ret (WM.up (WE.bl false)))
 WS.next)
 (WS.seq (WS.ifS (WT.tst (WE.op O2.eq (WE.op O2.ix (WE.var 0) (WE.int 0)) (WE.str "word")))
 (WS.seq (WS.ifS (WT.or (WT.tst (WE.op O2.ne (WE.cb ON.len (WA.cons (WE.var 0) WA.nil)) (WE.int 2))) (WT.or (WT.not (WT.b (WE.isi "str" (WE.op O2.ix (WE.var 0) (WE.int 1))))) (WT.or (WT.tst (WE.op O2.inn (WE.op O2.ix (WE.var 0) (WE.int 1)) (WE.lst (WA.cons (WE.str "see") (WA.cons (WE.str "copy") WA.nil))))) (WT.not (WT.tst (WE.chain (fun i j => decide (i ≤ j)) (fun i j => decide (i ≤ j)) (WE.int 1) (WE.cb ON.len (WA.cons (WE.op O2.ix (WE.var 0) (WE.int 1)) WA.nil)) (WE.int 12)))))))
 (WS.ret (WM.up (WE.bl false)))
 WS.next)
 (WS.ret (WM.up (WE.op O2.eq (WE.lc (WI.seq (WE.op O2.ix (WE.var 0) (WE.int 1))) (WG.name 1) (WT.tst (WE.op O2.nin (WE.var 1) (WE.str "abcdefghijklmnopqrstuvwxyz0123456789"))) (WE.var 1) 999999) (WE.lst WA.nil)))))
 WS.next)
 (WS.seq (WS.ifS (WT.tst (WE.op O2.eq (WE.op O2.ix (WE.var 0) (WE.int 0)) (WE.str "see")))
 (WS.ret (WM.up (WE.andV (WE.op O2.eq (WE.cb ON.len (WA.cons (WE.var 0) WA.nil)) (WE.int 3)) (WE.andV (WE.call pre_law_is_name post_law_is_name (WA.cons (WE.op O2.ix (WE.var 0) (WE.int 1)) WA.nil)) (WE.call pre_law_is_name post_law_is_name (WA.cons (WE.op O2.ix (WE.var 0) (WE.int 2)) WA.nil))))))
 WS.next)
 (WS.seq (WS.ifS (WT.tst (WE.op O2.eq (WE.op O2.ix (WE.var 0) (WE.int 0)) (WE.str "copy")))
 (WS.ret (WM.up (WE.andV (WE.op O2.eq (WE.cb ON.len (WA.cons (WE.var 0) WA.nil)) (WE.int 4)) (WE.andV (WE.call pre_law_is_name post_law_is_name (WA.cons (WE.op O2.ix (WE.var 0) (WE.int 1)) WA.nil)) (WE.andV (WE.call pre_law_is_name post_law_is_name (WA.cons (WE.op O2.ix (WE.var 0) (WE.int 2)) WA.nil)) (WE.call pre_law_is_whole post_law_is_whole (WA.cons (WE.op O2.ix (WE.var 0) (WE.int 3)) (WA.cons (WE.int 1) (WA.cons WE.non WA.nil)))))))))
 WS.next)
 (WS.ret (WM.up (WE.bl false)))))))
theorem v_law_is_piece {value_ : D} (T : Txt K mg a_QUOTING a_SIDES a_BadName i_BadName a_BadNumber i_BadNumber a_BadSaying i_BadSaying a_Letter i_Letter q_Letter) (hp : GV value_) : (u_law_is_piece T).w noX [.dat value_, .un] (retW fun r => r = .bl (pieceB value_)) := by
  unfold u_law_is_piece
  walk_at "w"
  try simp only [pre_law_is_name, post_law_is_name, pre_law_is_whole, post_law_is_whole]
  try walk_at "w"
  try simp only [pre_law_is_name, post_law_is_name, pre_law_is_whole, post_law_is_whole]
  try walk_at "w"


  cases value_ with
  | tup ds =>
    have hg := hp.it
    cases ds with
    | nil => simp [pieceB]
    | cons a ds =>
      cases a with
      | str wd =>
        have ha : (D.str wd).ok = true := (hg _ List.mem_cons_self).ok
        have o1 : (D.str "word").ok = true := by decide +kernel
        have o2 : (D.str "see").ok = true := by decide +kernel
        have o3 : (D.str "copy").ok = true := by decide +kernel
        walk_at "w"
        simp only [ha, o1, o2, o3, true_and]
        rcases ds with _ | ⟨b, _ | ⟨c, _ | ⟨d, _ | ⟨e, l⟩⟩⟩⟩
        · simp [pieceB, pieceT]
        · have hb := hg b (by simp)
          by_cases h1 : wd = "word"
          · subst h1
            have e0 : pieceB (.tup [.str "word", b]) = wordB b := by simp [pieceB, pieceT]
            rw [e0]
            cases b with
            | str z =>
              have hz : z.length ≤ 999999 := (LV.of hb).len z rfl
              have sl := (LV.of hb).sl
              simp [sl, inD_cons, inD_nil]
              refine ⟨fun n1 n2 => ⟨fun l1 => ⟨fun l2 => wordB_len (.inr (by omega)), fun l2 => ?_⟩, fun l1 => wordB_len (.inl (by omega))⟩, fun h => ?_⟩
              · refine lc_not2 (n := 12) (inSign sLF) (by simp; omega) (by simp) (fun d hd => ?_) (fun d hd => ?_) ?_
                · obtain ⟨k, hk, rfl⟩ := mem_signs hd
                  exact sign_gd hb hk
                · obtain ⟨k, hk, rfl⟩ := mem_signs hd
                  walk_at "w"
                  rfl
                · have q : quotB (.str z) = false := by simp [quotB, n1, n2]
                  rw [all_signs, wordB, madeB_in l1 l2, q, Bool.not_false, Bool.and_true]
              · rcases h with rfl | rfl <;> simp [wordB, quotB]
            | _ => simp [wordB, madeB, hb.bi]
          · simp [pieceB, pieceT, h1]
        · have hb := hg b (by simp)
          have hc := hg c (by simp)
          by_cases h1 : wd = "see"
          · subst h1; simp [pieceB, pieceT, hb, hc, ne_1]; cases nameB b <;> cases nameB c <;> simp
          · simp [pieceB, pieceT, h1]
        · have hb := hg b (by simp)
          have hc := hg c (by simp)
          have hd := hg d (by simp)
          have ld := LV.of hd
          by_cases h1 : wd = "copy"
          · subst h1; simp [pieceB, pieceT, hb, hc, ld, hiD, ne_2, ne_3] <;> cases h1 : nameB b <;> cases h2 : nameB c <;> simp_all
          · simp [pieceB, pieceT, h1]
        · have e2 : ¬ ((l.length : Int) + 1 + 1 + 1 + 1 + 1 = 2) := by omega
          have e3 : ¬ ((l.length : Int) + 1 + 1 + 1 + 1 + 1 = 3) := by omega
          have e4 : ¬ ((l.length : Int) + 1 + 1 + 1 + 1 + 1 = 4) := by omega
          simp [pieceB, pieceT, e2, e3, e4]
      | _ => simp [pieceB, (hg _ List.mem_cons_self).bi]; (try walk_at "w"); (try simp [(hg _ List.mem_cons_self).bi])
  | _ => simp [hp.bi, pieceB]
theorem c_law_is_piece (X : Defs K mg a_QUOTING a_SIDES a_BadName i_BadName a_BadNumber i_BadNumber a_BadSaying i_BadSaying a_Letter i_Letter q_Letter) (T : Txt K mg a_QUOTING a_SIDES a_BadName i_BadName a_BadNumber i_BadNumber a_BadSaying i_BadSaying a_Letter i_Letter q_Letter) : Cal P w K mg base "_law_is_piece" 2 ["value"] [] (SpP K pre_law_is_piece post_law_is_piece) := by
  have c_law_is_name := c_law_is_name (P := P) (w := w) (base := base) X T
  have c_law_is_whole := c_law_is_whole (P := P) (w := w) (base := base) X T
  refine cal_W (N := N_law_is_piece) (u_law_is_piece T) X.d_law_is_piece sc_law_is_piece (fun ds h => ?_) (fun f cdv A outer s H E hr ng => ⟨_, (pss_cons (ps_if (PW.pt (pw_or (pt_not (pt_val (pe_callB (call_isik (K := K)) (by rfl) T.b_isinstance (by decide +kernel) (pa_cons (pv 0) (pa_cons (pe_bltn (v := .ty "tuple") (by rfl) T.b_tuple (by decide +kernel) rfl) pa_nil))))) (pw_or (pt_cmpR (op_eqDk (K := K) (Room.units hr)) (pe_callB (call_lenk (K := K)) (by rfl) T.b_len (by decide +kernel) (pa_cons (pv 0) pa_nil)) pe_int (nomark _)) (pw_or1 (pt_not (pt_val (pe_callB (call_isik (K := K)) (by rfl) T.b_isinstance (by decide +kernel) (pa_cons (pe_ix (ix_seqk (K := K)) (pv 0) pe_int (fun _ _ => rfl)) (pa_cons (pe_bltn (v := .ty "str") (by rfl) T.b_str (by decide +kernel) rfl) pa_nil))))))))) (pss_one (ps_ret pe_bl)) pss_nil)
 (pss_cons (ps_if (pt_cmpR (op_eqDk (K := K) (Room.units hr)) (pe_ix (ix_seqk (K := K)) (pv 0) pe_int (fun _ _ => rfl)) pe_str (nomark _)) (pss_cons (ps_if (PW.pt (pw_or (pt_cmpR (op_neDk (K := K) (Room.units hr)) (pe_callB (call_lenk (K := K)) (by rfl) T.b_len (by decide +kernel) (pa_cons (pv 0) pa_nil)) pe_int (nomark _)) (pw_or (pt_not (pt_val (pe_callB (call_isik (K := K)) (by rfl) T.b_isinstance (by decide +kernel) (pa_cons (pe_ix (ix_seqk (K := K)) (pv 0) pe_int (fun _ _ => rfl)) (pa_cons (pe_bltn (v := .ty "str") (by rfl) T.b_str (by decide +kernel) rfl) pa_nil))))) (pw_or (pt_cmpR (op_inUk (K := K)) (pe_ix (ix_seqk (K := K)) (pv 0) pe_int (fun _ _ => rfl)) (pe_lst (pa_cons pe_str (pa_cons pe_str pa_nil))) (by rfl)) (pw_or1 (pt_not (pt_chain op_le op_le pe_int (pe_callB (call_lenk (K := K)) (by rfl) T.b_len (by decide +kernel) (pa_cons (pe_ix (ix_seqk (K := K)) (pv 0) pe_int (fun _ _ => rfl)) pa_nil)) pe_int))))))) (pss_one (ps_ret pe_bl)) pss_nil)
 (pss_one (ps_ret (pe_cmpR (op_eqDk (K := K) (Room.units hr)) (pe_lc (own := [("sign", 1)]) (g := (gName 1)) (by rfl) sc_law_is_piece.nd (pi_seqk (K := K) (pe_ix (ix_seqk (K := K)) (pv 0) pe_int (fun _ _ => rfl))) (blkOk_by (own := [("sign", 1)]) (N := N_law_is_piece) (sc := defScope s_law_is_piece) (by decide +kernel)) (fun _ _ _ _ _ => (pg_name (i := 1) sc_law_is_piece.nd rfl (Or.inl rfl))) (fun _ _ _ _ _ => (pts_one (pt_cmpR (op_ninUk (K := K)) (pv 1) pe_str (by rfl)))) (fun _ _ _ _ _ => (pv 1))) (pe_lst pa_nil) (nomark _))))) pss_nil)
 (pss_cons (ps_if (pt_cmpR (op_eqDk (K := K) (Room.units hr)) (pe_ix (ix_seqk (K := K)) (pv 0) pe_int (fun _ _ => rfl)) pe_str (nomark _)) (pss_one (ps_ret (pe_and (pe_cmpR (op_eqDk (K := K) (Room.units hr)) (pe_callB (call_lenk (K := K)) (by rfl) T.b_len (by decide +kernel) (pa_cons (pv 0) pa_nil)) pe_int (nomark _)) (pe_and (peg_cal c_law_is_name hr (by decide) ng rfl (pa_cons (pe_ix (ix_seqk (K := K)) (pv 0) pe_int (fun _ _ => rfl)) pa_nil)) (pe_one (peg_cal c_law_is_name hr (by decide) ng rfl (pa_cons (pe_ix (ix_seqk (K := K)) (pv 0) pe_int (fun _ _ => rfl)) pa_nil))))))) pss_nil)
 (pss_cons (ps_if (pt_cmpR (op_eqDk (K := K) (Room.units hr)) (pe_ix (ix_seqk (K := K)) (pv 0) pe_int (fun _ _ => rfl)) pe_str (nomark _)) (pss_one (ps_ret (pe_and (pe_cmpR (op_eqDk (K := K) (Room.units hr)) (pe_callB (call_lenk (K := K)) (by rfl) T.b_len (by decide +kernel) (pa_cons (pv 0) pa_nil)) pe_int (nomark _)) (pe_and (peg_cal c_law_is_name hr (by decide) ng rfl (pa_cons (pe_ix (ix_seqk (K := K)) (pv 0) pe_int (fun _ _ => rfl)) pa_nil)) (pe_and (peg_cal c_law_is_name hr (by decide) ng rfl (pa_cons (pe_ix (ix_seqk (K := K)) (pv 0) pe_int (fun _ _ => rfl)) pa_nil)) (pe_one (peg_cal c_law_is_whole hr (by decide) ng rfl (pa_cons (pe_ix (ix_seqk (K := K)) (pv 0) pe_int (fun _ _ => rfl)) (pa_cons pe_int (pa_cons pe_non pa_nil)))))))))) pss_nil)
 (pss_one (ps_ret pe_bl)))))), rfl⟩) rfl fun ds hp => ?_
  · match ds, h with
    | [_], _ => rfl
  · match ds, hp with
    | [value_], hp => exact w_at (u_law_is_piece T) (v_law_is_piece T hp) rfl rfl rfl
abbrev pre_law_is_body : List D → Prop
  | [value_] => GV value_
  | _ => False
abbrev post_law_is_body : List D → D → Prop
  | [value_], r => r = .bl (bodyB value_)
  | _, _ => False
def u_law_is_body (T : Txt K mg a_QUOTING a_SIDES a_BadName i_BadName a_BadNumber i_BadNumber a_BadSaying i_BadSaying a_Letter i_Letter q_Letter) : WS K L2.E0 := (WS.ret (WM.up (WE.andV (WE.isi "tuple" (WE.var 0)) (WE.andV (WE.op (O2.cmp fun i j => decide (i ≤ j)) (WE.cb ON.len (WA.cons (WE.var 0) WA.nil)) (WE.int 20)) (WE.op O2.eq (WE.lc (WI.seq (WE.var 0)) (WG.name 1) (WT.not (WT.b (WE.call pre_law_is_piece post_law_is_piece (WA.cons (WE.var 1) WA.nil)))) (WE.var 1) 999999) (WE.lst WA.nil))))))
theorem v_law_is_body {value_ : D} (T : Txt K mg a_QUOTING a_SIDES a_BadName i_BadName a_BadNumber i_BadNumber a_BadSaying i_BadSaying a_Letter i_Letter q_Letter) (hp : GV value_) : (u_law_is_body T).w noX [.dat value_, .un] (retW fun r => r = .bl (bodyB value_)) := by
  unfold u_law_is_body
  walk_at "w"
  try simp only [pre_law_is_piece, post_law_is_piece]
  try walk_at "w"
  try simp only [pre_law_is_piece, post_law_is_piece]
  try walk_at "w"


  cases value_ with
  | tup ds =>
    have hg := hp.it63
    simp only [builtin_tup, isT_tup, true_and, true_imp_iff, Bool.true_eq_false, false_imp_iff, and_true, len_tup, Option.some.injEq, exists_eq_left', itemsOf_tup]
    refine ⟨fun h => ?_, fun h => ?_⟩
    · have h' : ds.length ≤ 20 := by have := of_decide_eq_true h; omega
      refine lc_not (n := 10000000) pieceB (by omega) (by simp) hg (fun d hd => ?_) ?_
      · walk_at "w"
        exact hp.it d hd
      · simp [bodyB, h', Function.comp_def]
    · have h' : ¬ ds.length ≤ 20 := by have := of_decide_eq_false h; omega
      simp [bodyB, h']
  | _ => simp [hp.bi, bodyB]
theorem c_law_is_body (X : Defs K mg a_QUOTING a_SIDES a_BadName i_BadName a_BadNumber i_BadNumber a_BadSaying i_BadSaying a_Letter i_Letter q_Letter) (T : Txt K mg a_QUOTING a_SIDES a_BadName i_BadName a_BadNumber i_BadNumber a_BadSaying i_BadSaying a_Letter i_Letter q_Letter) : Cal P w K mg base "_law_is_body" 3 ["value"] [] (SpP K pre_law_is_body post_law_is_body) := by
  have c_law_is_piece := c_law_is_piece (P := P) (w := w) (base := base) X T
  refine cal_W (N := N_law_is_body) (u_law_is_body T) X.d_law_is_body sc_law_is_body (fun ds h => ?_) (fun f cdv A outer s H E hr ng => ⟨_, (pss_one (ps_ret (pe_and (pe_callB (call_isik (K := K)) (by rfl) T.b_isinstance (by decide +kernel) (pa_cons (pv 0) (pa_cons (pe_bltn (v := .ty "tuple") (by rfl) T.b_tuple (by decide +kernel) rfl) pa_nil))) (pe_and (pe_cmpR op_le (pe_callB (call_lenk (K := K)) (by rfl) T.b_len (by decide +kernel) (pa_cons (pv 0) pa_nil)) pe_int (nomark _)) (pe_one (pe_cmpR (op_eqDk (K := K) (Room.units hr)) (pe_lc (own := [("piece", 1)]) (g := (gName 1)) (by rfl) sc_law_is_body.nd (pi_seqk (K := K) (pv 0)) (blkOk_by (own := [("piece", 1)]) (N := N_law_is_body) (sc := defScope s_law_is_body) (by decide +kernel)) (fun _ _ _ _ _ => (pg_name (i := 1) sc_law_is_body.nd rfl (Or.inl rfl))) (fun _ _ _ _ _ => (pts_one (pt_not (pt_val (peg_cal c_law_is_piece hr (by decide) ng rfl (pa_cons (pv 1) pa_nil)))))) (fun _ _ _ _ _ => (pv 1))) (pe_lst pa_nil) (nomark _))))))), rfl⟩) rfl fun ds hp => ?_
  · match ds, h with
    | [_], _ => rfl
  · match ds, hp with
    | [value_], hp => exact w_at (u_law_is_body T) (v_law_is_body T hp) rfl rfl rfl
abbrev pre_law_is_saying : List D → Prop
  | [value_] => GV value_
  | _ => False
abbrev post_law_is_saying : List D → D → Prop
  | [value_], r => r = .bl (sayingB value_)
  | _, _ => False
def u_law_is_saying (T : Txt K mg a_QUOTING a_SIDES a_BadName i_BadName a_BadNumber i_BadNumber a_BadSaying i_BadSaying a_Letter i_Letter q_Letter) : WS K L2.E0 := (WS.seq (WS.ifS (WT.or (WT.not (WT.b (WE.isi2 "tuple" "list" (WE.var 0)))) (WT.or (WT.tst (WE.op (O2.cmp fun i j => decide (i < j)) (WE.cb ON.len (WA.cons (WE.var 0) WA.nil)) (WE.int 2))) (WT.not (WT.b (WE.isi "str" (WE.op O2.ix (WE.var 0) (WE.int 0)))))))
 (WS.ret (WM.up (WE.bl false)))
 WS.next)
 (WS.seq (WS.par 1 2 (WE.op O2.ix (WE.var 0) (WE.int 0)) (WE.cb ON.len (WA.cons (WE.var 0) WA.nil)))
 (WS.seq (WS.ifS (WT.tst (WE.op O2.inn (WE.var 1) (WE.lst (WA.cons (WE.str "vouch") (WA.cons (WE.str "circle") WA.nil)))))
 (WS.ret (WM.up (WE.andV (WE.op O2.eq (WE.var 2) (WE.int 3)) (WE.andV (WE.call pre_law_is_name post_law_is_name (WA.cons (WE.op O2.ix (WE.var 0) (WE.int 1)) WA.nil)) (WE.call pre_law_is_whole post_law_is_whole (WA.cons (WE.op O2.ix (WE.var 0) (WE.int 2)) (WA.cons (WE.int 0) (WA.cons (WE.int 24) WA.nil))))))))
 WS.next)
 (WS.seq (WS.ifS (WT.tst (WE.op O2.inn (WE.var 1) (WE.lst (WA.cons (WE.str "back") (WA.cons (WE.str "block") WA.nil)))))
 (WS.ret (WM.up (WE.andV (WE.op O2.eq (WE.var 2) (WE.int 3)) (WE.andV (WE.call pre_law_is_name post_law_is_name (WA.cons (WE.op O2.ix (WE.var 0) (WE.int 1)) WA.nil)) (WE.isi "bool" (WE.op O2.ix (WE.var 0) (WE.int 2)))))))
 WS.next)
 (WS.seq (WS.ifS (WT.tst (WE.op O2.eq (WE.var 1) (WE.str "speak")))
 (WS.seq (WS.ifS (WT.or (WT.tst (WE.op O2.ne (WE.var 2) (WE.int 4))) (WT.or (WT.not (WT.b (WE.call pre_law_is_name post_law_is_name (WA.cons (WE.op O2.ix (WE.var 0) (WE.int 1)) WA.nil)))) (WT.or (WT.not (WT.b (WE.call pre_law_is_subject post_law_is_subject (WA.cons (WE.op O2.ix (WE.var 0) (WE.int 2)) WA.nil)))) (WT.not (WT.b (WE.isi "str" (WE.op O2.ix (WE.var 0) (WE.int 3))))))))
 (WS.ret (WM.up (WE.bl false)))
 WS.next)
 (WS.ret (WM.up (WE.op O2.inn (WE.op O2.ix (WE.var 0) (WE.int 3)) (WE.lst (WA.cons (WE.str "for") (WA.cons (WE.str "against") (WA.cons (WE.str "none") WA.nil))))))))
 WS.next)
 (WS.seq (WS.ifS (WT.tst (WE.op O2.eq (WE.var 1) (WE.str "post")))
 (WS.ret (WM.up (WE.andV (WE.op O2.eq (WE.var 2) (WE.int 4)) (WE.andV (WE.call pre_law_is_name post_law_is_name (WA.cons (WE.op O2.ix (WE.var 0) (WE.int 1)) WA.nil)) (WE.andV (WE.call pre_law_is_name post_law_is_name (WA.cons (WE.op O2.ix (WE.var 0) (WE.int 2)) WA.nil)) (WE.call pre_law_is_body post_law_is_body (WA.cons (WE.op O2.ix (WE.var 0) (WE.int 3)) WA.nil)))))))
 WS.next)
 (WS.ret (WM.up (WE.andV (WE.op O2.eq (WE.var 1) (WE.str "take")) (WE.andV (WE.op O2.eq (WE.var 2) (WE.int 2)) (WE.call pre_law_is_name post_law_is_name (WA.cons (WE.op O2.ix (WE.var 0) (WE.int 1)) WA.nil))))))))))))
theorem v_law_is_saying {value_ : D} (T : Txt K mg a_QUOTING a_SIDES a_BadName i_BadName a_BadNumber i_BadNumber a_BadSaying i_BadSaying a_Letter i_Letter q_Letter) (hp : GV value_) : (u_law_is_saying T).w noX [.dat value_, .un, .un] (retW fun r => r = .bl (sayingB value_)) := by
  unfold u_law_is_saying
  walk_at "w"
  try simp only [pre_law_is_name, post_law_is_name, pre_law_is_whole, post_law_is_whole, pre_law_is_body, post_law_is_body, pre_law_is_subject, post_law_is_subject]
  try walk_at "w"
  try simp only [pre_law_is_name, post_law_is_name, pre_law_is_whole, post_law_is_whole, pre_law_is_body, post_law_is_body, pre_law_is_subject, post_law_is_subject]
  try walk_at "w"


  cases value_ with
  | tup ds =>
    have hg := hp.it
    cases ds with
    | nil => simp [sayingB, D.its]
    | cons a ds =>
      cases a with
      | str wd =>
        have ha : (D.str wd).ok = true := (hg _ List.mem_cons_self).ok
        have o1 : (D.str "take").ok = true := by decide +kernel
        have o2 : (D.str "speak").ok = true := by decide +kernel
        have o3 : (D.str "post").ok = true := by decide +kernel
        have e0 : sayingB (D.tup (D.str wd :: ds)) = sayT wd ds := rfl
        walk_at "w"
        simp only [ha, o1, o2, o3, true_and, e0, isT_tup, isL_lst, isT_lst, isL_tup, Bool.true_or, Bool.or_true, Bool.not_true, Bool.false_eq_true, Bool.true_eq_false, false_imp_iff, true_imp_iff, and_true, flat_str, Bool.and_true, inD_cons, inD_nil, Bool.or_false]
        clear e0 o1 o2 o3 ha
        have nes1 : ∀ {z : Str}, z = "vouch" ∨ z = "circle" → ¬ z = "speak" ∧ ¬ z = "post" ∧ ¬ z = "take" := fun h => by rcases h with rfl | rfl <;> simp [ne_take_vouch, ne_take_circle, ne_take_back, ne_take_block, ne_take_speak, ne_take_post, ne_vouch_take, ne_vouch_circle, ne_vouch_back, ne_vouch_block, ne_vouch_speak, ne_vouch_post, ne_circle_take, ne_circle_vouch, ne_circle_back, ne_circle_block, ne_circle_speak, ne_circle_post, ne_back_take, ne_back_vouch, ne_back_circle, ne_back_block, ne_back_speak, ne_back_post, ne_block_take, ne_block_vouch, ne_block_circle, ne_block_back, ne_block_speak, ne_block_post, ne_speak_take, ne_speak_vouch, ne_speak_circle, ne_speak_back, ne_speak_block, ne_speak_post, ne_post_take, ne_post_vouch, ne_post_circle, ne_post_back, ne_post_block, ne_post_speak]
        have nes2 : ∀ {z : Str}, z = "back" ∨ z = "block" → ¬ z = "speak" ∧ ¬ z = "post" ∧ ¬ z = "take" := fun h => by rcases h with rfl | rfl <;> simp [ne_take_vouch, ne_take_circle, ne_take_back, ne_take_block, ne_take_speak, ne_take_post, ne_vouch_take, ne_vouch_circle, ne_vouch_back, ne_vouch_block, ne_vouch_speak, ne_vouch_post, ne_circle_take, ne_circle_vouch, ne_circle_back, ne_circle_block, ne_circle_speak, ne_circle_post, ne_back_take, ne_back_vouch, ne_back_circle, ne_back_block, ne_back_speak, ne_back_post, ne_block_take, ne_block_vouch, ne_block_circle, ne_block_back, ne_block_speak, ne_block_post, ne_speak_take, ne_speak_vouch, ne_speak_circle, ne_speak_back, ne_speak_block, ne_speak_post, ne_post_take, ne_post_vouch, ne_post_circle, ne_post_back, ne_post_block, ne_post_speak]
        rcases ds with _ | ⟨b, _ | ⟨c, _ | ⟨d, _ | ⟨e, l⟩⟩⟩⟩
        · simp [sayT]
        · have hb := hg b (by simp)
          simp (config := { contextual := true }) [sayT, *, ne_take_vouch, ne_take_circle, ne_take_back, ne_take_block, ne_take_speak, ne_take_post, ne_vouch_take, ne_vouch_circle, ne_vouch_back, ne_vouch_block, ne_vouch_speak, ne_vouch_post, ne_circle_take, ne_circle_vouch, ne_circle_back, ne_circle_block, ne_circle_speak, ne_circle_post, ne_back_take, ne_back_vouch, ne_back_circle, ne_back_block, ne_back_speak, ne_back_post, ne_block_take, ne_block_vouch, ne_block_circle, ne_block_back, ne_block_speak, ne_block_post, ne_speak_take, ne_speak_vouch, ne_speak_circle, ne_speak_back, ne_speak_block, ne_speak_post, ne_post_take, ne_post_vouch, ne_post_circle, ne_post_back, ne_post_block, ne_post_speak]
        · have hb := hg b (by simp)
          have hc := hg c (by simp)
          have lc := LV.of hc
          have bc := hc.bi
          simp (config := { contextual := true }) [sayT, *, hiD, ne_take_vouch, ne_take_circle, ne_take_back, ne_take_block, ne_take_speak, ne_take_post, ne_vouch_take, ne_vouch_circle, ne_vouch_back, ne_vouch_block, ne_vouch_speak, ne_vouch_post, ne_circle_take, ne_circle_vouch, ne_circle_back, ne_circle_block, ne_circle_speak, ne_circle_post, ne_back_take, ne_back_vouch, ne_back_circle, ne_back_block, ne_back_speak, ne_back_post, ne_block_take, ne_block_vouch, ne_block_circle, ne_block_back, ne_block_speak, ne_block_post, ne_speak_take, ne_speak_vouch, ne_speak_circle, ne_speak_back, ne_speak_block, ne_speak_post, ne_post_take, ne_post_vouch, ne_post_circle, ne_post_back, ne_post_block, ne_post_speak]
        · have hb := hg b (by simp)
          have hc := hg c (by simp)
          have hd := hg d (by simp)
          have bd := hd.bi
          cases d with
          | str z => simp (config := { contextual := true }) [sayT, *, sideB, inD_cons, inD_nil, ne_take_vouch, ne_take_circle, ne_take_back, ne_take_block, ne_take_speak, ne_take_post, ne_vouch_take, ne_vouch_circle, ne_vouch_back, ne_vouch_block, ne_vouch_speak, ne_vouch_post, ne_circle_take, ne_circle_vouch, ne_circle_back, ne_circle_block, ne_circle_speak, ne_circle_post, ne_back_take, ne_back_vouch, ne_back_circle, ne_back_block, ne_back_speak, ne_back_post, ne_block_take, ne_block_vouch, ne_block_circle, ne_block_back, ne_block_speak, ne_block_post, ne_speak_take, ne_speak_vouch, ne_speak_circle, ne_speak_back, ne_speak_block, ne_speak_post, ne_post_take, ne_post_vouch, ne_post_circle, ne_post_back, ne_post_block, ne_post_speak]
          | _ => simp (config := { contextual := true }) [sayT, *, sideB, ne_take_vouch, ne_take_circle, ne_take_back, ne_take_block, ne_take_speak, ne_take_post, ne_vouch_take, ne_vouch_circle, ne_vouch_back, ne_vouch_block, ne_vouch_speak, ne_vouch_post, ne_circle_take, ne_circle_vouch, ne_circle_back, ne_circle_block, ne_circle_speak, ne_circle_post, ne_back_take, ne_back_vouch, ne_back_circle, ne_back_block, ne_back_speak, ne_back_post, ne_block_take, ne_block_vouch, ne_block_circle, ne_block_back, ne_block_speak, ne_block_post, ne_speak_take, ne_speak_vouch, ne_speak_circle, ne_speak_back, ne_speak_block, ne_speak_post, ne_post_take, ne_post_vouch, ne_post_circle, ne_post_back, ne_post_block, ne_post_speak]
        · have e1 : ¬ ((l.length : Int) + 1 + 1 + 1 + 1 + 1 = 2) := by omega
          have e2 : ¬ ((l.length : Int) + 1 + 1 + 1 + 1 + 1 = 3) := by omega
          have e3 : ¬ ((l.length : Int) + 1 + 1 + 1 + 1 + 1 = 4) := by omega
          simp [sayT, e1, e2, e3]
      | _ => simp [sayingB, D.its, (hg _ List.mem_cons_self).bi]; (try walk_at "w"); (try simp [(hg _ List.mem_cons_self).bi])
  | lst ds =>
    have hg := hp.li
    cases ds with
    | nil => simp [sayingB, D.its]
    | cons a ds =>
      cases a with
      | str wd =>
        have ha : (D.str wd).ok = true := (hg _ List.mem_cons_self).ok
        have o1 : (D.str "take").ok = true := by decide +kernel
        have o2 : (D.str "speak").ok = true := by decide +kernel
        have o3 : (D.str "post").ok = true := by decide +kernel
        have e0 : sayingB (D.lst (D.str wd :: ds)) = sayT wd ds := rfl
        walk_at "w"
        simp only [ha, o1, o2, o3, true_and, e0, isT_tup, isL_lst, isT_lst, isL_tup, Bool.true_or, Bool.or_true, Bool.not_true, Bool.false_eq_true, Bool.true_eq_false, false_imp_iff, true_imp_iff, and_true, flat_str, Bool.and_true, inD_cons, inD_nil, Bool.or_false]
        clear e0 o1 o2 o3 ha
        have nes1 : ∀ {z : Str}, z = "vouch" ∨ z = "circle" → ¬ z = "speak" ∧ ¬ z = "post" ∧ ¬ z = "take" := fun h => by rcases h with rfl | rfl <;> simp [ne_take_vouch, ne_take_circle, ne_take_back, ne_take_block, ne_take_speak, ne_take_post, ne_vouch_take, ne_vouch_circle, ne_vouch_back, ne_vouch_block, ne_vouch_speak, ne_vouch_post, ne_circle_take, ne_circle_vouch, ne_circle_back, ne_circle_block, ne_circle_speak, ne_circle_post, ne_back_take, ne_back_vouch, ne_back_circle, ne_back_block, ne_back_speak, ne_back_post, ne_block_take, ne_block_vouch, ne_block_circle, ne_block_back, ne_block_speak, ne_block_post, ne_speak_take, ne_speak_vouch, ne_speak_circle, ne_speak_back, ne_speak_block, ne_speak_post, ne_post_take, ne_post_vouch, ne_post_circle, ne_post_back, ne_post_block, ne_post_speak]
        have nes2 : ∀ {z : Str}, z = "back" ∨ z = "block" → ¬ z = "speak" ∧ ¬ z = "post" ∧ ¬ z = "take" := fun h => by rcases h with rfl | rfl <;> simp [ne_take_vouch, ne_take_circle, ne_take_back, ne_take_block, ne_take_speak, ne_take_post, ne_vouch_take, ne_vouch_circle, ne_vouch_back, ne_vouch_block, ne_vouch_speak, ne_vouch_post, ne_circle_take, ne_circle_vouch, ne_circle_back, ne_circle_block, ne_circle_speak, ne_circle_post, ne_back_take, ne_back_vouch, ne_back_circle, ne_back_block, ne_back_speak, ne_back_post, ne_block_take, ne_block_vouch, ne_block_circle, ne_block_back, ne_block_speak, ne_block_post, ne_speak_take, ne_speak_vouch, ne_speak_circle, ne_speak_back, ne_speak_block, ne_speak_post, ne_post_take, ne_post_vouch, ne_post_circle, ne_post_back, ne_post_block, ne_post_speak]
        rcases ds with _ | ⟨b, _ | ⟨c, _ | ⟨d, _ | ⟨e, l⟩⟩⟩⟩
        · simp [sayT]
        · have hb := hg b (by simp)
          simp (config := { contextual := true }) [sayT, *, ne_take_vouch, ne_take_circle, ne_take_back, ne_take_block, ne_take_speak, ne_take_post, ne_vouch_take, ne_vouch_circle, ne_vouch_back, ne_vouch_block, ne_vouch_speak, ne_vouch_post, ne_circle_take, ne_circle_vouch, ne_circle_back, ne_circle_block, ne_circle_speak, ne_circle_post, ne_back_take, ne_back_vouch, ne_back_circle, ne_back_block, ne_back_speak, ne_back_post, ne_block_take, ne_block_vouch, ne_block_circle, ne_block_back, ne_block_speak, ne_block_post, ne_speak_take, ne_speak_vouch, ne_speak_circle, ne_speak_back, ne_speak_block, ne_speak_post, ne_post_take, ne_post_vouch, ne_post_circle, ne_post_back, ne_post_block, ne_post_speak]
        · have hb := hg b (by simp)
          have hc := hg c (by simp)
          have lc := LV.of hc
          have bc := hc.bi
          simp (config := { contextual := true }) [sayT, *, hiD, ne_take_vouch, ne_take_circle, ne_take_back, ne_take_block, ne_take_speak, ne_take_post, ne_vouch_take, ne_vouch_circle, ne_vouch_back, ne_vouch_block, ne_vouch_speak, ne_vouch_post, ne_circle_take, ne_circle_vouch, ne_circle_back, ne_circle_block, ne_circle_speak, ne_circle_post, ne_back_take, ne_back_vouch, ne_back_circle, ne_back_block, ne_back_speak, ne_back_post, ne_block_take, ne_block_vouch, ne_block_circle, ne_block_back, ne_block_speak, ne_block_post, ne_speak_take, ne_speak_vouch, ne_speak_circle, ne_speak_back, ne_speak_block, ne_speak_post, ne_post_take, ne_post_vouch, ne_post_circle, ne_post_back, ne_post_block, ne_post_speak]
        · have hb := hg b (by simp)
          have hc := hg c (by simp)
          have hd := hg d (by simp)
          have bd := hd.bi
          cases d with
          | str z => simp (config := { contextual := true }) [sayT, *, sideB, inD_cons, inD_nil, ne_take_vouch, ne_take_circle, ne_take_back, ne_take_block, ne_take_speak, ne_take_post, ne_vouch_take, ne_vouch_circle, ne_vouch_back, ne_vouch_block, ne_vouch_speak, ne_vouch_post, ne_circle_take, ne_circle_vouch, ne_circle_back, ne_circle_block, ne_circle_speak, ne_circle_post, ne_back_take, ne_back_vouch, ne_back_circle, ne_back_block, ne_back_speak, ne_back_post, ne_block_take, ne_block_vouch, ne_block_circle, ne_block_back, ne_block_speak, ne_block_post, ne_speak_take, ne_speak_vouch, ne_speak_circle, ne_speak_back, ne_speak_block, ne_speak_post, ne_post_take, ne_post_vouch, ne_post_circle, ne_post_back, ne_post_block, ne_post_speak]
          | _ => simp (config := { contextual := true }) [sayT, *, sideB, ne_take_vouch, ne_take_circle, ne_take_back, ne_take_block, ne_take_speak, ne_take_post, ne_vouch_take, ne_vouch_circle, ne_vouch_back, ne_vouch_block, ne_vouch_speak, ne_vouch_post, ne_circle_take, ne_circle_vouch, ne_circle_back, ne_circle_block, ne_circle_speak, ne_circle_post, ne_back_take, ne_back_vouch, ne_back_circle, ne_back_block, ne_back_speak, ne_back_post, ne_block_take, ne_block_vouch, ne_block_circle, ne_block_back, ne_block_speak, ne_block_post, ne_speak_take, ne_speak_vouch, ne_speak_circle, ne_speak_back, ne_speak_block, ne_speak_post, ne_post_take, ne_post_vouch, ne_post_circle, ne_post_back, ne_post_block, ne_post_speak]
        · have e1 : ¬ ((l.length : Int) + 1 + 1 + 1 + 1 + 1 = 2) := by omega
          have e2 : ¬ ((l.length : Int) + 1 + 1 + 1 + 1 + 1 = 3) := by omega
          have e3 : ¬ ((l.length : Int) + 1 + 1 + 1 + 1 + 1 = 4) := by omega
          simp [sayT, e1, e2, e3]
      | _ => simp [sayingB, D.its, (hg _ List.mem_cons_self).bi]; (try walk_at "w"); (try simp [(hg _ List.mem_cons_self).bi])
  | _ => simp [hp.bi, sayingB, D.its]
theorem c_law_is_saying (X : Defs K mg a_QUOTING a_SIDES a_BadName i_BadName a_BadNumber i_BadNumber a_BadSaying i_BadSaying a_Letter i_Letter q_Letter) (T : Txt K mg a_QUOTING a_SIDES a_BadName i_BadName a_BadNumber i_BadNumber a_BadSaying i_BadSaying a_Letter i_Letter q_Letter) : Cal P w K mg base "_law_is_saying" 4 ["value"] [] (SpP K pre_law_is_saying post_law_is_saying) := by
  have c_law_is_name := c_law_is_name (P := P) (w := w) (base := base) X T
  have c_law_is_whole := c_law_is_whole (P := P) (w := w) (base := base) X T
  have c_law_is_body := c_law_is_body (P := P) (w := w) (base := base) X T
  have c_law_is_subject := c_law_is_subject (P := P) (w := w) (base := base) X T
  refine cal_W (N := N_law_is_saying) (u_law_is_saying T) X.d_law_is_saying sc_law_is_saying (fun ds h => ?_) (fun f cdv A outer s H E hr ng => ⟨_, (pss_cons (ps_if (PW.pt (pw_or (pt_not (pt_val (pe_callB (call_isiTk (K := K)) (by rfl) T.b_isinstance (by decide +kernel) (pa_cons (pv 0) (pa_cons (pe_tup (pa_cons (pe_bltn (v := .ty "tuple") (by rfl) T.b_tuple (by decide +kernel) rfl) (pa_cons (pe_bltn (v := .ty "list") (by rfl) T.b_list (by decide +kernel) rfl) pa_nil))) pa_nil))))) (pw_or (pt_cmpR op_lt (pe_callB (call_lenk (K := K)) (by rfl) T.b_len (by decide +kernel) (pa_cons (pv 0) pa_nil)) pe_int (nomark _)) (pw_or1 (pt_not (pt_val (pe_callB (call_isik (K := K)) (by rfl) T.b_isinstance (by decide +kernel) (pa_cons (pe_ix (ix_seqk (K := K)) (pv 0) pe_int (fun _ _ => rfl)) (pa_cons (pe_bltn (v := .ty "str") (by rfl) T.b_str (by decide +kernel) rfl) pa_nil))))))))) (pss_one (ps_ret pe_bl)) pss_nil)
 (pss_cons (ps_par rfl sc_law_is_saying.nd rfl rfl (by decide) rfl rfl (pa_cons (pe_ix (ix_seqk (K := K)) (pv 0) pe_int (fun _ _ => rfl)) (pa_cons (pe_callB (call_lenk (K := K)) (by rfl) T.b_len (by decide +kernel) (pa_cons (pv 0) pa_nil)) pa_nil)) (by rfl))
 (pss_cons (ps_if (pt_cmpR (op_inUk (K := K)) (pv 1) (pe_lst (pa_cons pe_str (pa_cons pe_str pa_nil))) (by rfl)) (pss_one (ps_ret (pe_and (pe_cmpR (op_eqDk (K := K) (Room.units hr)) (pv 2) pe_int (nomark _)) (pe_and (peg_cal c_law_is_name hr (by decide) ng rfl (pa_cons (pe_ix (ix_seqk (K := K)) (pv 0) pe_int (fun _ _ => rfl)) pa_nil)) (pe_one (peg_cal c_law_is_whole hr (by decide) ng rfl (pa_cons (pe_ix (ix_seqk (K := K)) (pv 0) pe_int (fun _ _ => rfl)) (pa_cons pe_int (pa_cons pe_int pa_nil))))))))) pss_nil)
 (pss_cons (ps_if (pt_cmpR (op_inUk (K := K)) (pv 1) (pe_lst (pa_cons pe_str (pa_cons pe_str pa_nil))) (by rfl)) (pss_one (ps_ret (pe_and (pe_cmpR (op_eqDk (K := K) (Room.units hr)) (pv 2) pe_int (nomark _)) (pe_and (peg_cal c_law_is_name hr (by decide) ng rfl (pa_cons (pe_ix (ix_seqk (K := K)) (pv 0) pe_int (fun _ _ => rfl)) pa_nil)) (pe_one (pe_callB (call_isik (K := K)) (by rfl) T.b_isinstance (by decide +kernel) (pa_cons (pe_ix (ix_seqk (K := K)) (pv 0) pe_int (fun _ _ => rfl)) (pa_cons (pe_bltn (v := .ty "bool") (by rfl) T.b_bool (by decide +kernel) rfl) pa_nil)))))))) pss_nil)
 (pss_cons (ps_if (pt_cmpR (op_eqDk (K := K) (Room.units hr)) (pv 1) pe_str (nomark _)) (pss_cons (ps_if (PW.pt (pw_or (pt_cmpR (op_neDk (K := K) (Room.units hr)) (pv 2) pe_int (nomark _)) (pw_or (pt_not (pt_val (peg_cal c_law_is_name hr (by decide) ng rfl (pa_cons (pe_ix (ix_seqk (K := K)) (pv 0) pe_int (fun _ _ => rfl)) pa_nil)))) (pw_or (pt_not (pt_val (peg_cal c_law_is_subject hr (by decide) ng rfl (pa_cons (pe_ix (ix_seqk (K := K)) (pv 0) pe_int (fun _ _ => rfl)) pa_nil)))) (pw_or1 (pt_not (pt_val (pe_callB (call_isik (K := K)) (by rfl) T.b_isinstance (by decide +kernel) (pa_cons (pe_ix (ix_seqk (K := K)) (pv 0) pe_int (fun _ _ => rfl)) (pa_cons (pe_bltn (v := .ty "str") (by rfl) T.b_str (by decide +kernel) rfl) pa_nil)))))))))) (pss_one (ps_ret pe_bl)) pss_nil)
 (pss_one (ps_ret (pe_cmpR (op_inUk (K := K)) (pe_ix (ix_seqk (K := K)) (pv 0) pe_int (fun _ _ => rfl)) (pe_lst (pa_cons pe_str (pa_cons pe_str (pa_cons pe_str pa_nil)))) (by rfl))))) pss_nil)
 (pss_cons (ps_if (pt_cmpR (op_eqDk (K := K) (Room.units hr)) (pv 1) pe_str (nomark _)) (pss_one (ps_ret (pe_and (pe_cmpR (op_eqDk (K := K) (Room.units hr)) (pv 2) pe_int (nomark _)) (pe_and (peg_cal c_law_is_name hr (by decide) ng rfl (pa_cons (pe_ix (ix_seqk (K := K)) (pv 0) pe_int (fun _ _ => rfl)) pa_nil)) (pe_and (peg_cal c_law_is_name hr (by decide) ng rfl (pa_cons (pe_ix (ix_seqk (K := K)) (pv 0) pe_int (fun _ _ => rfl)) pa_nil)) (pe_one (peg_cal c_law_is_body hr (by decide) ng rfl (pa_cons (pe_ix (ix_seqk (K := K)) (pv 0) pe_int (fun _ _ => rfl)) pa_nil)))))))) pss_nil)
 (pss_one (ps_ret (pe_and (pe_cmpR (op_eqDk (K := K) (Room.units hr)) (pv 1) pe_str (nomark _)) (pe_and (pe_cmpR (op_eqDk (K := K) (Room.units hr)) (pv 2) pe_int (nomark _)) (pe_one (peg_cal c_law_is_name hr (by decide) ng rfl (pa_cons (pe_ix (ix_seqk (K := K)) (pv 0) pe_int (fun _ _ => rfl)) pa_nil))))))))))))), rfl⟩) rfl fun ds hp => ?_
  · match ds, h with
    | [_], _ => rfl
  · match ds, hp with
    | [value_], hp => exact w_at (u_law_is_saying T) (v_law_is_saying T hp) rfl rfl rfl
end
end K23
set_option maxRecDepth 100000
set_option maxHeartbeats 8000000
namespace K23
open PySem L2 PyProof.Rows DL
section
variable {P : Program} {w : World} {K : PySem.W.Frag} {mg : Str → Option Value} {base : Heap} {a_QUOTING a_SIDES a_BadName i_BadName a_BadNumber i_BadNumber a_BadSaying i_BadSaying a_Letter i_Letter q_Letter : Addr}
local macro_rules | `(tactic| walk_at "w") => `(tactic| simp only [DL.w_var, DL.w_int, DL.w_bl, DL.w_str, DL.w_non, DL.w_ktup, DL.w_op, DL.w_neg, DL.w_chain, DL.w_nil, DL.w_cons, DL.w_tup, DL.w_lst, DL.w_tst, DL.w_tb, DL.w_not, DL.w_yes, DL.w_and, DL.w_or, DL.w_andV, DL.w_orV, DL.w_notV, DL.w_ite, DL.w_none, DL.w_some, DL.w_sl, DL.w_cb, DL.w_isi, DL.w_isi2, DL.w_call, DL.w_callD, DL.w_callX, DL.w_callG, DL.w_split, DL.w_dget, DL.w_dnil, DL.w_dcons, DL.ks_nil, DL.ks_cons, DL.w_disp, DL.w_seqI, DL.w_rng1, DL.w_rng2, DL.w_enum, DL.w_zip, DL.w_lc, DL.w_borrow, DL.w_up, DL.w_popAt, DL.w_next, DL.w_brk, DL.w_cont, DL.w_seq, DL.w_ret, DL.w_retN, DL.w_asg, DL.w_asgT, DL.w_asgOwn, DL.w_drop, DL.w_ifS, DL.w_append, DL.w_frz, frzAt_0, frzAt_d, frzAt_u, frzAt_s, DL.w_forS, DL.w_par, DL.w_parLE,
  DL.q_int, DL.q_cmp, DL.q_intC, DL.q_addI, DL.q_addS, DL.q_addT, DL.q_addL, DL.q_mulI, DL.q_mulS, DL.q_mulL, DL.q_eq, DL.q_ne, DL.q_isN, DL.q_isB, DL.q_notN, DL.q_inT, DL.q_inL, DL.q_inS, DL.q_ninT, DL.q_ninL, DL.q_ninS, DL.q_ixL, DL.q_ixT, DL.q_ixS, DL.n_len, DL.n_list, DL.n_tuple, DL.n_all, DL.n_any, DL.n_sum, DL.n_sortedS, DL.n_min2, DL.n_max2, DL.n_int1, DL.n_strI, DL.n_repr, DL.g_name, DL.is_name, cut_tup, cut_lst,  isi_str, isi_int, isi_bool, isi_tuple, isi_list,
  datAt_0, datAt_s, ownAt_0, ownAt_s, penIs_0, penIs_s, setD_nil, setD_cons, wipeG, List.set_cons_zero, List.set_cons_succ, List.set_nil, List.map_cons, List.map_nil, List.cons_append, List.nil_append,
  D.bl.injEq, D.int.injEq, D.str.injEq, exists_eq_left', exists_eq_left, exists_and_left, exists_eq', exists_eq, true_and, and_true, true_imp_iff, false_imp_iff, Bool.true_eq_false, Bool.false_eq_true, forall_const, Bool.not_true, Bool.not_false, List.length_cons, List.length_nil, eqv_str, eqv_int, ok_int, ok_bl, ok_non, forall_eq, atI_0, atI_1, atI_2, atI_3, List.getElem?_cons_zero, List.getElem?_cons_succ, List.getElem?_nil, Option.some.injEq, Sk.own.injEq, len_tup, len_lst, its_tup, its_lst, itemsOf_tup, itemsOf_lst, itemsOf_str, isS_str, isT_tup, isL_lst, isI_int, isB_bl, builtin_str, builtin_tup, builtin_lst, builtin_int, builtin_bl, builtin_non, D.sign_one, List.all_cons, List.all_nil, Bool.and_true])

theorem wide_log {n : Int} (h0 : 0 < n) (h : n < 10000000000000000000000000000000000000000) : n.natAbs.log2 < 9000 := by
  have h1 : n.natAbs < 2 ^ 200 := by
    have e : (2 : Nat) ^ 200 = 1606938044258990275541962092341162602522202993782792835301376 := by decide +kernel
    omega
  have := (Nat.log2_lt (n := n.natAbs) (k := 200) (by omega)).mpr h1
  omega
abbrev m_law_draw : Nat := 1
abbrev pre_law_draw : List D → Prop
  | [.int n] => 0 < n ∧ n < 10000000000000000000000000000000000000000
  | _ => False
abbrev post_law_draw : List D → D → Prop
  | [.int n], r => ∃ k : Int, r = .int k ∧ 0 ≤ k ∧ k < n
  | _, _ => False
theorem c_law_draw (X : Defs K mg a_QUOTING a_SIDES a_BadName i_BadName a_BadNumber i_BadNumber a_BadSaying i_BadSaying a_Letter i_Letter q_Letter) (T : Txt K mg a_QUOTING a_SIDES a_BadName i_BadName a_BadNumber i_BadNumber a_BadSaying i_BadSaying a_Letter i_Letter q_Letter) : Cal P w K mg base "_law_draw" 1 ["pen", "many"] [] (SpG K m_law_draw pre_law_draw post_law_draw) := by
  refine cal_raw (N := N_law_draw) X.d_law_draw sc_law_draw (fun vs H Q E h => ?_) (fun f cdv A outer s H vs Q E hr ng h => ?_)
  · obtain ⟨a, cc, vs', Hd, ds, n, rfl, sa, pe, hn, r, hp, _⟩ := h
    rw [List.length_cons, r.length]
    match ds, hp with
    | [.int _], _ => rfl
  · obtain ⟨a, cc, vs', Hd, ds, n, rfl, sa, pe, hn, r, hp, q⟩ := h
    match ds, hp with
    | [.int many], hp =>
      refine ⟨tDrawW K, (pss_cons (ps_dput (hu_of hr) (pv 0) pe_str (pe_op (op_addUk (K := K)) (pe_dget (hu_of hr) (pv 0) pe_str (fun _ _ => rfl)) pe_int) rfl)
 (pss_cons (ps_if (PW.pt (pw_and (pt_cmpR (op_eqDk (K := K) (Room.units hr)) (pe_dget (hu_of hr) (pv 0) pe_str (fun _ _ => rfl)) pe_int (nomark _)) (pw_and1 (pt_cmpR op_lt (pe_dget (hu_of hr) (pv 0) pe_str (fun _ _ => rfl)) (pe_callB (call_lenk (K := K)) (by rfl) T.b_len (by decide +kernel) (pa_cons (pe_dget (hu_of hr) (pv 0) pe_str (fun _ _ => rfl)) pa_nil)) (nomark _))))) (pss_cons (ps_set (i := 2) sc_law_draw.nd rfl (Or.inl rfl) (pe_ix (ix_seqk (K := K)) (pe_dget (hu_of hr) (pv 0) pe_str (fun _ _ => rfl)) (pe_dget (hu_of hr) (pv 0) pe_str (fun _ _ => rfl)) (fun _ _ => rfl)))
 (pss_cons (ps_dput (hu_of hr) (pv 0) pe_str (pe_op (op_addUk (K := K)) (pe_dget (hu_of hr) (pv 0) pe_str (fun _ _ => rfl)) pe_int) rfl)
 (pss_one (ps_if (pt_cmpR op_ge (pv 2) (pe_op op_pow pe_int pe_int) (nomark _)) (pss_one (ps_dput (hu_of hr) (pv 0) pe_str (pe_op op_sub (pv 2) (pe_op op_pow pe_int pe_int)) rfl)) (pss_one (ps_dput (hu_of hr) (pv 0) pe_str (pe_op op_mod (pe_callTy call_int1 (by rfl) T.b_int (by decide +kernel) (pa_cons (pe_op (op_addUk (K := K)) (pe_op (op_mulUk (K := K)) (pe_dget (hu_of hr) (pv 0) pe_str (fun _ _ => rfl)) pe_int) (pv 2)) pa_nil)) pe_int) rfl)))))) pss_nil)
 (pss_cons (ps_if (pt_cmpR op_gt (pe_dget (hu_of hr) (pv 0) pe_str (fun _ _ => rfl)) pe_int (nomark _)) (pss_cons (ps_set (i := 3) sc_law_draw.nd rfl (Or.inl rfl) (pe_op op_mod (pe_callTy call_int1 (by rfl) T.b_int (by decide +kernel) (pa_cons (pe_dget (hu_of hr) (pv 0) pe_str (fun _ _ => rfl)) pa_nil)) (pv 1)))
 (pss_cons (ps_dput (hu_of hr) (pv 0) pe_str (pe_op op_fdivW (pe_dget (hu_of hr) (pv 0) pe_str (fun _ _ => rfl)) (pv 1)) rfl)
 (pss_one (ps_ret (pv 3))))) pss_nil)
 (pss_cons (ps_set (i := 4) sc_law_draw.nd rfl (Or.inl rfl) (pe_op (op_addUk (K := K)) (pe_op (op_addUk (K := K)) (pe_dget (hu_of hr) (pv 0) pe_str (fun _ _ => rfl)) (pe_op (op_mulUk (K := K)) (pe_dget (hu_of hr) (pv 0) pe_str (fun _ _ => rfl)) pe_int)) pe_int))
 (pss_one (ps_ret (pe_op op_mod (pe_op op_fdivW (pe_callTy call_int1 (by rfl) T.b_int (by decide +kernel) (pa_cons (pe_op op_mod (pe_op op_pow (pv 4) pe_int) pe_int) pa_nil)) pe_int) (pv 1)))))))), ?_⟩
      cases r with | cons r1 r2 => cases r1; cases r2; exact drawW_ok sa pe hn hp.1 (wide_log hp.1 hp.2) fun v d Hd' H' g pe' f r => q v d Hd' H' g pe' (by obtain ⟨n, k, e1, e2, e3, e4⟩ := f; cases e1; exact ⟨k, e2, e3, e4⟩) r
/-! ### drawn things -/
abbrev m_law_pick : Nat := 1
abbrev pre_law_pick : List D → Prop
  | [some_] => ∃ ds, some_.its = some ds ∧ 0 < ds.length ∧ ds.length < 1000
  | _ => False
abbrev post_law_pick : List D → D → Prop
  | [some_], r => ∃ ds, some_.its = some ds ∧ r ∈ ds
  | _, _ => False
def u_law_pick (T : Txt K mg a_QUOTING a_SIDES a_BadName i_BadName a_BadNumber i_BadNumber a_BadSaying i_BadSaying a_Letter i_Letter q_Letter) : WS K L2.E0 := (WS.ret (WM.up (WE.op O2.ix (WE.var 1) (WE.callG m_law_draw pre_law_draw post_law_draw 0 (WA.cons (WE.cb ON.len (WA.cons (WE.var 1) WA.nil)) WA.nil)))))
theorem v_law_pick {some_ : D} (T : Txt K mg a_QUOTING a_SIDES a_BadName i_BadName a_BadNumber i_BadNumber a_BadSaying i_BadSaying a_Letter i_Letter q_Letter) (hp : ∃ ds, some_.its = some ds ∧ 0 < ds.length ∧ ds.length < 1000) : (u_law_pick T).w noX [.pen, .dat some_] (retW fun r => ∃ ds, some_.its = some ds ∧ r ∈ ds) := by
  unfold u_law_pick
  walk_at "w"
  try simp only [pre_law_draw, post_law_draw]
  try walk_at "w"
  try simp only [pre_law_draw, post_law_draw]
  try walk_at "w"


  obtain ⟨ds, he, h0, h1⟩ := hp
  refine ⟨ds.length, its_len he, ⟨by omega, by omega⟩, ?_⟩
  rintro d ⟨k, rfl, k0, k1⟩
  exact ix_its he k0 k1 fun x hx => ⟨ds, he, hx⟩
theorem c_law_pick (X : Defs K mg a_QUOTING a_SIDES a_BadName i_BadName a_BadNumber i_BadNumber a_BadSaying i_BadSaying a_Letter i_Letter q_Letter) (T : Txt K mg a_QUOTING a_SIDES a_BadName i_BadName a_BadNumber i_BadNumber a_BadSaying i_BadSaying a_Letter i_Letter q_Letter) : Cal P w K mg base "_law_pick" 2 ["pen", "some"] [] (SpG K m_law_pick pre_law_pick post_law_pick) := by
  have c_law_draw := c_law_draw (P := P) (w := w) (base := base) X T
  refine cal_WG (N := N_law_pick) (u_law_pick T) X.d_law_pick sc_law_pick (fun ds h => ?_) (fun f cdv A outer s H E hr ng => ⟨_, (pss_one (ps_ret (pe_ix (ix_seqk (K := K)) (pv 1) (peg_cal c_law_draw hr (by decide) ng rfl (pa_cons (pv 0) (pa_cons (pe_callB (call_lenk (K := K)) (by rfl) T.b_len (by decide +kernel) (pa_cons (pv 1) pa_nil)) pa_nil))) (fun _ _ => rfl)))), rfl⟩) (Nat.le_of_eq rfl) fun ds hp => ?_
  · match ds, h with
    | [_], _ => rfl
  · match ds, hp with
    | [some_], hp => exact w_at (u_law_pick T) (v_law_pick T hp) rfl rfl rfl
abbrev m_law_shuffled : Nat := 64
abbrev pre_law_shuffled : List D → Prop
  | [some_] => ∃ ds, some_.its = some ds ∧ ds.length ≤ 64
  | _ => False
abbrev post_law_shuffled : List D → D → Prop
  | [some_], r => ∃ ds es, some_.its = some ds ∧ r = .lst es ∧ es.length = ds.length ∧ ∀ e ∈ es, e ∈ ds
  | _, _ => False
def u_law_shuffled (T : Txt K mg a_QUOTING a_SIDES a_BadName i_BadName a_BadNumber i_BadNumber a_BadSaying i_BadSaying a_Letter i_Letter q_Letter) : WS K L2.E0 := (WS.seq (WS.parLE 2 3 (WE.var 1))
 (WS.seq (WS.forS (WI.rng1 (WA.cons (WE.cb ON.len (WA.cons (WE.var 1) WA.nil)) WA.nil)) (WG.name 4)
 (WS.append 3 (WM.popAt 2 (WE.callG m_law_draw pre_law_draw post_law_draw 0 (WA.cons (WE.borrow 2 (WE.cb ON.len (WA.cons (WE.var 2) WA.nil))) WA.nil)))) 64)
 (WS.frz 3 (WS.ret (WM.up (WE.var 3))))))
theorem v_law_shuffled {some_ : D} (T : Txt K mg a_QUOTING a_SIDES a_BadName i_BadName a_BadNumber i_BadNumber a_BadSaying i_BadSaying a_Letter i_Letter q_Letter) (hp : ∃ ds, some_.its = some ds ∧ ds.length ≤ 64) : (u_law_shuffled T).w noX [.pen, .dat some_, .un, .un, .un] (retW fun r => ∃ ds es, some_.its = some ds ∧ r = .lst es ∧ es.length = ds.length ∧ ∀ e ∈ es, e ∈ ds) := by
  unfold u_law_shuffled
  walk_at "w"
  try simp only [pre_law_draw, post_law_draw]
  try walk_at "w"
  try simp only [pre_law_draw, post_law_draw]
  try walk_at "w"


  obtain ⟨ds, he, h0⟩ := hp
  refine ⟨ds, he, ds.length, its_len he, ds.length, rfl, by omega, ?_⟩
  refine ForP.of (fun i G => ∃ l f s, G = [.pen, .dat some_, .own l, .own f, s] ∧ l.length + i = ds.length ∧ f.length = i ∧ (∀ e ∈ l, e ∈ ds) ∧ ∀ e ∈ f, e ∈ ds) (by simp; omega) ⟨ds, [], _, rfl, rfl, rfl, fun _ h => h, fun _ h => nomatch h⟩ ?_ ?_
  · rintro i d G hd ⟨l, f, s, rfl, h1, h2, h3, h4⟩
    refine ⟨_, rfl, ?_⟩
    obtain ⟨hi, rfl⟩ := rngD_get hd
    walk_at "w"
    simp only [pre_law_draw, post_law_draw]
    refine ⟨rfl, ⟨by omega, by omega⟩, ?_⟩
    rintro d ⟨k, rfl, k0, k1⟩
    have hk : k.toNat < l.length := by omega
    refine ⟨k.toNat, by rw [Int.toNat_of_nonneg k0], l[k.toNat], List.getElem?_eq_getElem hk, by omega, ?_⟩
    try walk_at "w"
    refine ⟨by omega, _, _, _, rfl, ?_, by simp [h2], fun e he => h3 e (mem_erase he), fun e he => ?_⟩
    · rw [List.length_eraseIdx_of_lt hk]; omega
    · rcases List.mem_append.mp he with q | q
      · exact h4 e q
      · rw [List.mem_singleton.mp q]; exact h3 _ (List.getElem_mem hk)
  · rintro G ⟨l, f, s, rfl, h1, h2, h3, h4⟩
    walk_at "w"
    exact ⟨ds, he, f, rfl, by rw [h2]; simp, h4⟩
theorem c_law_shuffled (X : Defs K mg a_QUOTING a_SIDES a_BadName i_BadName a_BadNumber i_BadNumber a_BadSaying i_BadSaying a_Letter i_Letter q_Letter) (T : Txt K mg a_QUOTING a_SIDES a_BadName i_BadName a_BadNumber i_BadNumber a_BadSaying i_BadSaying a_Letter i_Letter q_Letter) : Cal P w K mg base "_law_shuffled" 2 ["pen", "some"] [] (SpG K m_law_shuffled pre_law_shuffled post_law_shuffled) := by
  have c_law_draw := c_law_draw (P := P) (w := w) (base := base) X T
  refine cal_WG (N := N_law_shuffled) (u_law_shuffled T) X.d_law_shuffled sc_law_shuffled (fun ds h => ?_) (fun f cdv A outer s H E hr ng => ⟨_, (pss_cons (ps_par rfl sc_law_shuffled.nd rfl rfl (by decide) rfl rfl (pa_cons (pe_callTy (call_list_ofk (K := K)) (by rfl) T.b_list (by decide +kernel) (pa_cons (pv 1) pa_nil)) (pa_cons (pe_lst pa_nil) pa_nil)) (by rfl))
 (pss_cons (ps_for PassesOwn.never rfl (pi_range1 rfl T.b_range (pa_cons (pe_callB (call_lenk (K := K)) (by rfl) T.b_len (by decide +kernel) (pa_cons (pv 1) pa_nil)) pa_nil)) (pg_name (i := 4) sc_law_shuffled.nd rfl (Or.inl rfl)) (pss_one (ps_expr (pe_bm PySem.F.plainAttrs_list PySem.F.slot_list_append PySem.F.type_list_append mt_append (pv 3) (pa_cons (pe_bm PySem.F.plainAttrs_list PySem.F.slot_list_pop PySem.F.type_list_pop mt_popAt (pv 2) (pa_cons (peg_cal c_law_draw hr (by decide) ng rfl (pa_cons (pv 0) (pa_cons (pe_callB (call_lenk (K := K)) (by rfl) T.b_len (by decide +kernel) (pa_cons (pv 2) pa_nil)) pa_nil))) pa_nil)) pa_nil)))))
 (pss_one (ps_ret (pv 3))))), rfl⟩) (Nat.le_of_eq rfl) fun ds hp => ?_
  · match ds, h with
    | [_], _ => rfl
  · match ds, hp with
    | [some_], hp => exact w_at (u_law_shuffled T) (v_law_shuffled T hp) rfl rfl rfl
/-- a text of signs of names, at most n of them; h: its first is a letter -/
def TxD (h : Bool) (n : Nat) (d : D) : Prop := ∃ z, d = .str z ∧ z.length ≤ n ∧ (∀ c ∈ z.cps.toList, c ∈ sLF.cps.toList) ∧ (h = true → ∃ c cs, z.cps.toList = c :: cs ∧ c ∈ sLET.cps.toList)
theorem sLF_ok : PyData.strOk sLF = true := by decide +kernel
theorem TxD.so {h : Bool} {n : Nat} {d : D} (t : TxD h n d) : SO n d := by
  obtain ⟨z, rfl, h1, h2, _⟩ := t
  exact ⟨z, rfl, strOk_sub h2 sLF_ok, h1⟩
theorem TxD.name {d : D} (t : TxD true 12 d) : nameB d = true := by
  obtain ⟨z, rfl, h1, h2, h3⟩ := t
  obtain ⟨c, cs, e, hc⟩ := h3 rfl
  have l0 : (1 : Int) ≤ z.length := by
    have := len_cps (z := z)
    rw [e] at this
    simp at this
    omega
  unfold nameB
  rw [madeB_in l0 (by omega)]
  have a1 : (z.cps.toList.all fun c => decide (c ∈ sLF.cps.toList)) = true := List.all_eq_true.mpr fun c hc => decide_eq_true (h2 c hc)
  rw [a1]
  show (true && match z.cps.toList with | c :: _ => decide (c ∈ sLET.cps.toList) | [] => false) = true
  rw [e]
  exact decide_eq_true hc
theorem cps_add {a b : Str} : (a ++ b).cps.toList = a.cps.toList ++ b.cps.toList := by
  show (a.cps ++ b.cps).toList = _
  rw [Array.toList_append]
theorem let_in {c : Nat} (h : c ∈ sLET.cps.toList) : c ∈ sLF.cps.toList := by
  have e : sLF.cps.toList = sLET.cps.toList ++ sFIG.cps.toList := cps_add
  rw [e]; exact List.mem_append_left _ h
theorem cutS_to {z : Str} {p : Nat} : (cutS z none (some (p : Int))).cps.toList = z.cps.toList.take p := by
  have e : (cutS z none (some (p : Int))).cps.toList = (z.cps.toList.drop (HT.sIx z.length 0 none)).take (HT.sIx z.length z.length (some (p : Int)) - HT.sIx z.length 0 none) := rfl
  rw [e, HT.sIx_none, HT.sIx_nat, List.drop_zero, Nat.sub_zero, ← len_cps]
  by_cases h : p ≤ z.cps.toList.length
  · rw [Nat.min_eq_left h]
  · rw [Nat.min_eq_right (by omega), List.take_length, List.take_of_length_le (by omega)]
theorem cutS_from {z : Str} {p : Nat} : (cutS z (some (p : Int)) none).cps.toList = z.cps.toList.drop p := by
  have e : (cutS z (some (p : Int)) none).cps.toList = (z.cps.toList.drop (HT.sIx z.length 0 (some (p : Int)))).take (HT.sIx z.length z.length none - HT.sIx z.length 0 (some (p : Int))) := rfl
  rw [e, HT.sIx_none, HT.sIx_nat, ← len_cps]
  by_cases h : p ≤ z.cps.toList.length
  · rw [Nat.min_eq_left h, List.take_of_length_le (by rw [List.length_drop]; omega)]
  · rw [Nat.min_eq_right (by omega), List.drop_length, List.drop_of_length_le (by omega)]; exact List.take_nil
theorem name_ins {z s : Str} {p : Nat} {φ : D → Prop} (hz : z.length ≤ 9) (h0 : 0 < z.length) (hc : ∀ c ∈ z.cps.toList, c ∈ sLET.cps.toList) (h1 : 1 ≤ p) (hs : s.length ≤ 3) (sc : ∀ c ∈ s.cps.toList, c ∈ sLF.cps.toList) (k : ∀ r, TxD true 12 r → φ r) :
    (O2.add (K := K)).w ((D.str z).cut none (some (p : Int))) (.str s) fun x => (D.str z).seq = true ∧ (O2.add (K := K)).w x ((D.str z).cut (some (p : Int)) none) φ := by
  have l1 : (cutS z none (some (p : Int))).length ≤ 9 := by rw [← len_cps, cutS_to, List.length_take, len_cps]; omega
  have l2 : (cutS z (some (p : Int)) none).length ≤ 9 := by rw [← len_cps, cutS_from, List.length_drop, len_cps]; omega
  show (cutS z none (some (p : Int))).length + s.length ≤ 1000000 ∧ (D.str z).seq = true ∧ (cutS z none (some (p : Int)) ++ s).length + (cutS z (some (p : Int)) none).length ≤ 1000000 ∧ φ (.str (cutS z none (some (p : Int)) ++ s ++ cutS z (some (p : Int)) none))
  refine ⟨by omega, decide_eq_true (by omega), by rw [str_len_add]; omega, k _ ⟨_, rfl, ?_, ?_, fun _ => ?_⟩⟩
  · rw [← len_cps, cps_add, cps_add, cutS_to, cutS_from]
    simp only [List.length_append, List.length_take, List.length_drop, len_cps]
    omega
  · intro c hm
    rw [cps_add, cps_add, cutS_to, cutS_from] at hm
    rcases List.mem_append.mp hm with hm | hm
    · rcases List.mem_append.mp hm with hm | hm
      · exact let_in (hc c (List.mem_of_mem_take hm))
      · exact sc c hm
    · exact let_in (hc c (List.mem_of_mem_drop hm))
  · obtain ⟨c, cs, e⟩ := cons_of (z := z) (by omega)
    obtain ⟨q, rfl⟩ : ∃ q, p = q + 1 := ⟨p - 1, by omega⟩
    refine ⟨c, cs.take q ++ s.cps.toList ++ z.cps.toList.drop (q + 1), ?_, hc c (by rw [e]; exact List.mem_cons_self)⟩
    rw [cps_add, cps_add, cutS_to, cutS_from, e, List.take_succ_cons]
    rfl
abbrev m_law_name : Nat := 67
abbrev pre_law_name : List D → Prop
  | [index_] => ∃ i : Nat, index_ = .int i ∧ i ≤ 9
  | _ => False
abbrev post_law_name : List D → D → Prop
  | [index_], r => TxD true 12 r
  | _, _ => False
def u_law_name (T : Txt K mg a_QUOTING a_SIDES a_BadName i_BadName a_BadNumber i_BadNumber a_BadSaying i_BadSaying a_Letter i_Letter q_Letter) : WS K L2.E0 := (WS.seq (WS.ifS (WT.tst (WE.op O2.eq (WE.callG m_law_draw pre_law_draw post_law_draw 0 (WA.cons (WE.int 9) WA.nil)) (WE.int 0)))
 (WS.ret (WM.up (WE.op O2.add (WE.str "new") (WE.cb ON.strI (WA.cons (WE.var 1) WA.nil)))))
 WS.next)
 (WS.seq (WS.asg 2 (WM.up (WE.str "")))
 (WS.seq (WS.forS (WI.rng1 (WA.cons (WE.op O2.add (WE.int 1) (WE.callG m_law_draw pre_law_draw post_law_draw 0 (WA.cons (WE.int 9) WA.nil))) WA.nil)) (WG.name 3)
 (WS.asg 2 (WM.up (WE.op O2.add (WE.var 2) (WE.op O2.ix (WE.str "abcdefghijklmnopqrstuvwxyz") (WE.callG m_law_draw pre_law_draw post_law_draw 0 (WA.cons (WE.int 26) WA.nil)))))) 64)
 (WS.seq (WS.asg 4 (WM.up (WE.op O2.add (WE.int 1) (WE.callG m_law_draw pre_law_draw post_law_draw 0 (WA.cons (WE.cb ON.len (WA.cons (WE.var 2) WA.nil)) WA.nil)))))
 (WS.ret (WM.up (WE.op O2.add (WE.op O2.add (WE.sl (WE.var 2) WO.none (WO.some (WE.var 4))) (WE.cb ON.strI (WA.cons (WE.var 1) WA.nil))) (WE.sl (WE.var 2) (WO.some (WE.var 4)) WO.none))))))))
theorem v_law_name {index_ : D} (T : Txt K mg a_QUOTING a_SIDES a_BadName i_BadName a_BadNumber i_BadNumber a_BadSaying i_BadSaying a_Letter i_Letter q_Letter) (hp : ∃ i : Nat, index_ = .int i ∧ i ≤ 9) : (u_law_name T).w noX [.pen, .dat index_, .un, .un, .un] (retW fun r => TxD true 12 r) := by
  unfold u_law_name
  walk_at "w"
  try simp only [pre_law_draw, post_law_draw]
  try walk_at "w"
  try simp only [pre_law_draw, post_law_draw]
  try walk_at "w"


  obtain ⟨i, rfl, hi⟩ := hp
  have hs : (toString (i : Int) : Str).length ≤ 3 ∧ ∀ c ∈ (toString (i : Int) : Str).cps.toList, c ∈ sLF.cps.toList := by
    have q : ∀ j ∈ List.range 10, (toString ((j : Nat) : Int) : Str).length ≤ 3 ∧ ∀ c ∈ (toString ((j : Nat) : Int) : Str).cps.toList, c ∈ sLF.cps.toList := by decide +kernel
    exact q i (List.mem_range.mpr (by omega))
  have hl : ((i : Int)).natAbs.log2 < 1920 := by
    have q : ∀ j ∈ List.range 101, (((j : Nat) : Int)).natAbs.log2 < 1920 := by decide +kernel
    exact q i (List.mem_range.mpr (by omega))
  refine ⟨by decide, ?_⟩
  rintro d ⟨k, rfl, k0, k1⟩
  refine ⟨rfl, fun _ => ?_, fun _ => ⟨by decide, ?_⟩⟩
  · walk_at "w"
    have l3 : ("new" : Str).length = 3 := by decide +kernel
    refine ⟨hl, by rw [l3]; omega, _, rfl, by rw [str_len_add, l3]; omega, fun c hc => ?_, fun _ => ⟨110, [101, 119] ++ (toString (i : Int) : Str).cps.toList, ?_, by decide +kernel⟩⟩
    · rw [cps_add] at hc
      rcases List.mem_append.mp hc with hc | hc
      · have q : ∀ c ∈ ("new" : Str).cps.toList, c ∈ sLF.cps.toList := by decide +kernel
        exact q c hc
      · exact hs.2 c hc
    · rw [cps_add]
      have q : ("new" : Str).cps.toList = [110, 101, 119] := by decide +kernel
      rw [q]; rfl
  · rintro d ⟨k2, rfl, j0, j1⟩
    walk_at "w"
    refine ⟨1 + k2, rfl, by omega, ?_⟩
    refine ForP.of (fun j G => ∃ z s, G = [.pen, .dat (.int i), .dat (.str z), s, .un] ∧ (∀ c ∈ z.cps.toList, c ∈ sLET.cps.toList) ∧ z.length = j) (by simp; omega) ⟨"", _, rfl, (by decide +kernel), rfl⟩ ?_ ?_
    · rintro j d G hd ⟨z, s, rfl, h1, h2⟩
      refine ⟨_, rfl, ?_⟩
      obtain ⟨hj, rfl⟩ := rngD_get hd
      walk_at "w"
      simp only [pre_law_draw, post_law_draw]
      refine ⟨by decide, ?_⟩
      rintro d ⟨k3, rfl, a, b⟩
      refine ix_strs (by decide) a b fun c hc => ?_
      walk_at "w"
      have l1 : (Str.mk #[c]).length = 1 := rfl
      refine ⟨by omega, _, _, rfl, fun e he => ?_, by rw [str_len_add, h2, l1]⟩
      rw [cps_add] at he
      rcases List.mem_append.mp he with he | he
      · exact h1 e he
      · have : e = c := by simpa using he
        subst this; exact hc
    · rintro G ⟨z, s, rfl, h1, h2⟩
      simp only [rngD_len] at h2
      walk_at "w"
      refine ⟨z.length, len_str (by omega), ⟨by omega, by omega⟩, ?_⟩
      rintro d ⟨k4, rfl, a, b⟩
      obtain ⟨k4, rfl⟩ : ∃ m : Nat, k4 = (m : Int) := ⟨k4.toNat, by omega⟩
      walk_at "w"
      refine ⟨decide_eq_true (by omega), hl, ?_⟩
      have e1 : (1 : Int) + (k4 : Int) = ((1 + k4 : Nat) : Int) := rfl
      rw [e1]
      exact name_ins (K := K) (by omega) (by omega) h1 (by omega) hs.1 hs.2 fun r h => h
theorem c_law_name (X : Defs K mg a_QUOTING a_SIDES a_BadName i_BadName a_BadNumber i_BadNumber a_BadSaying i_BadSaying a_Letter i_Letter q_Letter) (T : Txt K mg a_QUOTING a_SIDES a_BadName i_BadName a_BadNumber i_BadNumber a_BadSaying i_BadSaying a_Letter i_Letter q_Letter) : Cal P w K mg base "_law_name" 2 ["pen", "index"] [] (SpG K m_law_name pre_law_name post_law_name) := by
  have c_law_draw := c_law_draw (P := P) (w := w) (base := base) X T
  refine cal_WG (N := N_law_name) (u_law_name T) X.d_law_name sc_law_name (fun ds h => ?_) (fun f cdv A outer s H E hr ng => ⟨_, (pss_cons (ps_if (pt_cmpR (op_eqDk (K := K) (Room.units hr)) (peg_cal c_law_draw hr (by decide) ng rfl (pa_cons (pv 0) (pa_cons pe_int pa_nil))) pe_int (nomark _)) (pss_one (ps_ret (pe_op (op_addUk (K := K)) pe_str (pe_callTy call_str_int (by rfl) T.b_str (by decide +kernel) (pa_cons (pv 1) pa_nil))))) pss_nil)
 (pss_cons (ps_set (i := 2) sc_law_name.nd rfl (Or.inl rfl) pe_str)
 (pss_cons (ps_for PassesOwn.never rfl (pi_range1 rfl T.b_range (pa_cons (pe_op (op_addUk (K := K)) pe_int (peg_cal c_law_draw hr (by decide) ng rfl (pa_cons (pv 0) (pa_cons pe_int pa_nil)))) pa_nil)) (pg_name (i := 3) sc_law_name.nd rfl (Or.inl rfl)) (pss_one (ps_set (i := 2) sc_law_name.nd rfl (Or.inl rfl) (pe_op (op_addUk (K := K)) (pv 2) (pe_ix (ix_seqk (K := K)) pe_str (peg_cal c_law_draw hr (by decide) ng rfl (pa_cons (pv 0) (pa_cons pe_int pa_nil))) (fun _ _ => rfl))))))
 (pss_cons (ps_set (i := 4) sc_law_name.nd rfl (Or.inl rfl) (pe_op (op_addUk (K := K)) pe_int (peg_cal c_law_draw hr (by decide) ng rfl (pa_cons (pv 0) (pa_cons (pe_callB (call_lenk (K := K)) (by rfl) T.b_len (by decide +kernel) (pa_cons (pv 2) pa_nil)) pa_nil)))))
 (pss_one (ps_ret (pe_op (op_addUk (K := K)) (pe_op (op_addUk (K := K)) (pe_slice (sl_Uk (K := K)) (pv 2) po_none (po_some (pv 4))) (pe_callTy call_str_int (by rfl) T.b_str (by decide +kernel) (pa_cons (pv 1) pa_nil))) (pe_slice (sl_Uk (K := K)) (pv 2) (po_some (pv 4)) po_none)))))))), rfl⟩) (Nat.le_of_eq rfl) fun ds hp => ?_
  · match ds, h with
    | [_], _ => rfl
  · match ds, hp with
    | [index_], hp => exact w_at (u_law_name T) (v_law_name T hp) rfl rfl rfl
abbrev m_law_names : Nat := 4352
abbrev pre_law_names : List D → Prop
  | [many_] => ∃ n : Nat, many_ = .int n ∧ n ≤ 10
  | _ => False
abbrev post_law_names : List D → D → Prop
  | [many_], r => ∃ n : Nat, many_ = .int n ∧ ∃ es, r = .lst es ∧ es.length = n ∧ ∀ e ∈ es, TxD true 12 e
  | _, _ => False
def u_law_names (T : Txt K mg a_QUOTING a_SIDES a_BadName i_BadName a_BadNumber i_BadNumber a_BadSaying i_BadSaying a_Letter i_Letter q_Letter) : WS K L2.E0 := (WS.ret (WM.up (WE.callG m_law_shuffled pre_law_shuffled post_law_shuffled 0 (WA.cons (WE.lc (WI.rng1 (WA.cons (WE.var 1) WA.nil)) (WG.name 2) WT.yes (WE.callG m_law_name pre_law_name post_law_name 0 (WA.cons (WE.var 2) WA.nil)) 64) WA.nil))))
theorem v_law_names {many_ : D} (T : Txt K mg a_QUOTING a_SIDES a_BadName i_BadName a_BadNumber i_BadNumber a_BadSaying i_BadSaying a_Letter i_Letter q_Letter) (hp : ∃ n : Nat, many_ = .int n ∧ n ≤ 10) : (u_law_names T).w noX [.pen, .dat many_, .un] (retW fun r => ∃ n : Nat, many_ = .int n ∧ ∃ es, r = .lst es ∧ es.length = n ∧ ∀ e ∈ es, TxD true 12 e) := by
  unfold u_law_names
  walk_at "w"
  try simp only [pre_law_shuffled, post_law_shuffled, pre_law_name, post_law_name]
  try walk_at "w"
  try simp only [pre_law_shuffled, post_law_shuffled, pre_law_name, post_law_name]
  try walk_at "w"


  obtain ⟨n, rfl, hn⟩ := hp
  refine ⟨n, rfl, by omega, ?_⟩
  refine LcP.each (TxD true 12) (by simp; omega) (fun d hd => ?_) fun es h1 h2 => ?_
  · obtain ⟨i, hi, rfl⟩ := mem_rngD hd
    refine ⟨_, rfl, ?_⟩
    walk_at "w"
    simp only [pre_law_name, post_law_name]
    refine ⟨⟨i, by simp, by omega⟩, fun d h => h⟩
  · rw [rngD_len] at h1
    refine ⟨⟨es, rfl, by omega⟩, ?_⟩
    rintro d ⟨ds, e, xs, rfl, h3, h4⟩
    cases e
    refine ⟨n, rfl, xs, rfl, by omega, fun e he => h2 e (h4 e he)⟩
theorem c_law_names (X : Defs K mg a_QUOTING a_SIDES a_BadName i_BadName a_BadNumber i_BadNumber a_BadSaying i_BadSaying a_Letter i_Letter q_Letter) (T : Txt K mg a_QUOTING a_SIDES a_BadName i_BadName a_BadNumber i_BadNumber a_BadSaying i_BadSaying a_Letter i_Letter q_Letter) : Cal P w K mg base "_law_names" 3 ["pen", "many"] [] (SpG K m_law_names pre_law_names post_law_names) := by
  have c_law_shuffled := c_law_shuffled (P := P) (w := w) (base := base) X T
  have c_law_name := c_law_name (P := P) (w := w) (base := base) X T
  refine cal_WG (N := N_law_names) (u_law_names T) X.d_law_names sc_law_names (fun ds h => ?_) (fun f cdv A outer s H E hr ng => ⟨_, (pss_one (ps_ret (peg_cal c_law_shuffled hr (by decide) ng rfl (pa_cons (pv 0) (pa_cons (pe_lc (own := [("index", 2)]) (g := (gName 2)) (tt := tYes) (by rfl) sc_law_names.nd (pi_range1 rfl T.b_range (pa_cons (pv 1) pa_nil)) (blkOk_by (own := [("index", 2)]) (N := N_law_names) (sc := defScope s_law_names) (by decide +kernel)) (fun _ _ _ _ _ => (pg_name (i := 2) sc_law_names.nd rfl (Or.inl rfl))) (fun _ _ _ _ _ => pts_nil) (fun _ _ _ _ _ => (peg_cal c_law_name hr (by decide) ng rfl (pa_cons (pv 0) (pa_cons (pv 2) pa_nil))))) pa_nil))))), rfl⟩) (Nat.le_of_eq rfl) fun ds hp => ?_
  · match ds, h with
    | [_], _ => rfl
  · match ds, hp with
    | [many_], hp => exact w_at (u_law_names T) (v_law_names T hp) rfl rfl rfl
end
end K23
set_option maxRecDepth 100000
set_option maxHeartbeats 8000000
namespace K23
open PySem L2 PyProof.Rows DL
section
variable {P : Program} {w : World} {K : PySem.W.Frag} {mg : Str → Option Value} {base : Heap} {a_QUOTING a_SIDES a_BadName i_BadName a_BadNumber i_BadNumber a_BadSaying i_BadSaying a_Letter i_Letter q_Letter : Addr}
local macro_rules | `(tactic| walk_at "w") => `(tactic| simp only [DL.w_var, DL.w_int, DL.w_bl, DL.w_str, DL.w_non, DL.w_ktup, DL.w_op, DL.w_neg, DL.w_chain, DL.w_nil, DL.w_cons, DL.w_tup, DL.w_lst, DL.w_tst, DL.w_tb, DL.w_not, DL.w_yes, DL.w_and, DL.w_or, DL.w_andV, DL.w_orV, DL.w_notV, DL.w_ite, DL.w_none, DL.w_some, DL.w_sl, DL.w_cb, DL.w_isi, DL.w_isi2, DL.w_call, DL.w_callD, DL.w_callX, DL.w_callG, DL.w_split, DL.w_dget, DL.w_knil, DL.w_kcons, DL.w_dispK, DL.w_seqI, DL.w_rng1, DL.w_rng2, DL.w_enum, DL.w_zip, DL.w_lc, DL.w_borrow, DL.w_up, DL.w_popAt, DL.w_next, DL.w_brk, DL.w_cont, DL.w_seq, DL.w_ret, DL.w_retN, DL.w_asg, DL.w_asgT, DL.w_asgOwn, DL.w_drop, DL.w_ifS, DL.w_append, DL.w_raiseO, DL.w_xf, DL.w_tryAsg, DL.w_mkX, DL.w_fldR, DL.w_fld, DL.w_isC, DL.q_eqO, DL.q_neO, DL.w_tryMk, DL.slfAt_0, DL.slfAt_s, DL.w_asgLend, DL.lendAt_o, DL.lendAt_d, DL.lendAt_s, DL.w_frz, frzAt_0, frzAt_d, frzAt_u, frzAt_s, DL.w_forS, DL.w_par, DL.w_parLE,
  DL.q_int, DL.q_cmp, DL.q_intC, DL.q_addI, DL.q_addS, DL.q_addT, DL.q_addL, DL.q_mulI, DL.q_mulS, DL.q_mulL, DL.q_eq, DL.q_ne, DL.q_isN, DL.q_isB, DL.q_notN, DL.q_inT, DL.q_inL, DL.q_inS, DL.q_ninT, DL.q_ninL, DL.q_ninS, DL.q_ixL, DL.q_ixT, DL.q_ixS, DL.n_len, DL.n_list, DL.n_tuple, DL.n_all, DL.n_any, DL.n_sum, DL.n_sortedS, DL.n_min2, DL.n_max2, DL.n_int1, DL.n_strI, DL.n_repr, DL.g_name, DL.is_name, cut_tup, cut_lst,  isi_str, isi_int, isi_bool, isi_tuple, isi_list,
  datAt_0, datAt_s, ownAt_0, ownAt_s, penIs_0, penIs_s, setD_nil, setD_cons, wipeG, List.set_cons_zero, List.set_cons_succ, List.set_nil, List.map_cons, List.map_nil, List.cons_append, List.nil_append,
  D.bl.injEq, D.int.injEq, D.str.injEq, exists_eq_left', exists_eq_left, exists_and_left, exists_eq', exists_eq, true_and, and_true, true_imp_iff, false_imp_iff, Bool.true_eq_false, Bool.false_eq_true, forall_const, Bool.not_true, Bool.not_false, List.length_cons, List.length_nil, eqv_str, eqv_int, ok_int, ok_bl, ok_non, forall_eq, atI_0, atI_1, atI_2, atI_3, List.getElem?_cons_zero, List.getElem?_cons_succ, List.getElem?_nil, Option.some.injEq, Sk.own.injEq, len_tup, len_lst, its_tup, its_lst, itemsOf_tup, itemsOf_lst, itemsOf_str, isS_str, isT_tup, isL_lst, isI_int, isB_bl, builtin_str, builtin_tup, builtin_lst, builtin_int, builtin_bl, builtin_non, D.sign_one, List.all_cons, List.all_nil, Bool.and_true])

theorem o_BadName (X : Defs K mg a_QUOTING a_SIDES a_BadName i_BadName a_BadNumber i_BadNumber a_BadSaying i_BadSaying a_Letter i_Letter q_Letter) (T : Txt K mg a_QUOTING a_SIDES a_BadName i_BadName a_BadNumber i_BadNumber a_BadSaying i_BadSaying a_Letter i_Letter q_Letter) : OwnI P w K mg base "BadName" a_BadName i_BadName ["name"] 1 := by
  obtain ⟨fd, F, b⟩ := X.e_BadName
  exact ⟨T.x_BadName, fd, _, init1_fn F sc_BadName___init__ rfl rfl (fun cdv A outer s H E => pss_one (ps_ost (pv 0) (pv 1))), b⟩
theorem o_BadNumber (X : Defs K mg a_QUOTING a_SIDES a_BadName i_BadName a_BadNumber i_BadNumber a_BadSaying i_BadSaying a_Letter i_Letter q_Letter) (T : Txt K mg a_QUOTING a_SIDES a_BadName i_BadName a_BadNumber i_BadNumber a_BadSaying i_BadSaying a_Letter i_Letter q_Letter) : OwnI P w K mg base "BadNumber" a_BadNumber i_BadNumber ["what", "number"] 1 := by
  obtain ⟨fd, F, b⟩ := X.e_BadNumber
  exact ⟨T.x_BadNumber, fd, _, init2_fn F sc_BadNumber___init__ rfl rfl (fun cdv A outer s H E => pss_cons (ps_ost (pv 0) (pv 1)) (pss_one (ps_ost (pv 0) (pv 2)))), b⟩
theorem o_BadSaying (X : Defs K mg a_QUOTING a_SIDES a_BadName i_BadName a_BadNumber i_BadNumber a_BadSaying i_BadSaying a_Letter i_Letter q_Letter) (T : Txt K mg a_QUOTING a_SIDES a_BadName i_BadName a_BadNumber i_BadNumber a_BadSaying i_BadSaying a_Letter i_Letter q_Letter) : OwnI P w K mg base "BadSaying" a_BadSaying i_BadSaying ["saying"] 1 := by
  obtain ⟨fd, F, b⟩ := X.e_BadSaying
  exact ⟨T.x_BadSaying, fd, _, init1_fn F sc_BadSaying___init__ rfl rfl (fun cdv A outer s H E => pss_one (ps_ost (pv 0) (pv 1))), b⟩
abbrev fLet : List Str := ["account", "number", "saying"]
def letD (C : Addr) (a n : D) (l : List D) : D := .obj C fLet [a, n, .tup l]
/-- a letter that may be compared -/
def LetOk (C : Addr) (d : D) : Prop := ∃ a n l, d = letD C a n l ∧ GD 60 10000000 a ∧ GD 60 10000000 n ∧ GD 60 10000000 (.tup l)
def letEq : D → D → Bool
  | .obj _ _ ds, .obj _ _ es => (D.tup ds).eqv (.tup es)
  | _, _ => false
theorem its_of_saying {d : D} (h : sayingB d = true) : ∃ l, d.its = some l := by
  unfold sayingB at h
  split at h
  · rename_i w l e; exact ⟨_, e⟩
  · cases h
abbrev pre_Letter : List D → Prop
  | [account_, number_, saying_] => GV account_ ∧ GV number_ ∧ GV saying_
  | _ => False
abbrev post_Letter : List D → List D → Prop
  | [account_, number_, saying_], es => nameB account_ = true ∧ wholeB 1 none number_ = true ∧ sayingB saying_ = true ∧ ∃ l, saying_.its = some l ∧ es = [account_, number_, .tup l]
  | _, _ => False
abbrev exc_Letter (a_QUOTING a_SIDES a_BadName i_BadName a_BadNumber i_BadNumber a_BadSaying i_BadSaying a_Letter i_Letter q_Letter : Addr) : List D → Xq
  | [account_, number_, saying_] => fun C fs => (nameB account_ = false ∧ C = a_BadName ∧ fs = [(("name" : Str), account_)]) ∨ (nameB account_ = true ∧ wholeB 1 none number_ = false ∧ C = a_BadNumber ∧ fs = [(("number" : Str), number_), (("what" : Str), .str "number")]) ∨ (nameB account_ = true ∧ wholeB 1 none number_ = true ∧ sayingB saying_ = false ∧ C = a_BadSaying ∧ fs = [(("saying" : Str), saying_)])
  | _ => noX
def u_Letter (T : Txt K mg a_QUOTING a_SIDES a_BadName i_BadName a_BadNumber i_BadNumber a_BadSaying i_BadSaying a_Letter i_Letter q_Letter) (E : XK) : WS K E := (WS.seq (WS.ifS (WT.not (WT.b (WE.call pre_is_name post_is_name (WA.cons (WE.var 1) WA.nil))))
 (WS.raiseO a_BadName ["name"] (WA.cons (WE.var 1) WA.nil) T.x_BadName.ox T.x_BadName.no)
 WS.next)
 (WS.seq (WS.ifS (WT.not (WT.b (WE.callD (des := [.non]) pre_is_whole post_is_whole (fun _ => (.cons .non .nil)) (WA.cons (WE.var 2) (WA.cons (WE.int 1) WA.nil)))))
 (WS.raiseO a_BadNumber ["what", "number"] (WA.cons (WE.str "number") (WA.cons (WE.var 2) WA.nil)) T.x_BadNumber.ox T.x_BadNumber.no)
 WS.next)
 (WS.seq (WS.ifS (WT.not (WT.b (WE.call pre_is_saying post_is_saying (WA.cons (WE.var 3) WA.nil))))
 (WS.raiseO a_BadSaying ["saying"] (WA.cons (WE.var 3) WA.nil) T.x_BadSaying.ox T.x_BadSaying.no)
 WS.next)
 (WS.seq (WS.fld 0 "account" (WE.var 1))
 (WS.seq (WS.fld 0 "number" (WE.var 2))
 (WS.fld 0 "saying" (WE.cb ON.tuple (WA.cons (WE.var 3) WA.nil))))))))
theorem v_Letter {account_ number_ saying_ : D} {x dx : Addr} (T : Txt K mg a_QUOTING a_SIDES a_BadName i_BadName a_BadNumber i_BadNumber a_BadSaying i_BadSaying a_Letter i_Letter q_Letter) (E : XK) (hp : GV account_ ∧ GV number_ ∧ GV saying_) : (u_Letter T E).w (exc_Letter a_QUOTING a_SIDES a_BadName i_BadName a_BadNumber i_BadNumber a_BadSaying i_BadSaying a_Letter i_Letter q_Letter [account_, number_, saying_]) [.slf x a_Letter dx [] [], .dat account_, .dat number_, .dat saying_] { N := fun G => ∃ es, G[0]? = some (.slf x a_Letter dx ["account", "number", "saying"] es) ∧ post_Letter [account_, number_, saying_] es, R := fun _ => False, B := fun _ => False, C := fun _ => False } := by
  unfold u_Letter

  obtain ⟨ha, hn, hs⟩ := hp
  walk_at "w"
  simp only [pre_is_name, post_is_name, pre_is_whole, post_is_whole, pre_is_saying, post_is_saying]
  try walk_at "w"
  refine ⟨GV.lv ha, fun h => ⟨by decide, .inl ⟨by simpa using h, rfl, rfl⟩⟩, fun h => ⟨⟨GV.lv hn, none, rfl⟩, ?_⟩⟩
  rintro d ⟨hi, e, rfl⟩
  cases e
  have h1 : nameB account_ = true := by simpa using h
  refine ⟨_, rfl, fun h => ⟨by decide, .inr (.inl ⟨h1, by simpa using h, rfl, rfl⟩)⟩, fun h => ⟨hs, fun h3 => ⟨by decide, .inr (.inr ⟨h1, by simpa using h, by simpa using h3, rfl, rfl⟩)⟩, fun h3 => ?_⟩⟩
  have h2 : wholeB 1 none number_ = true := by simpa using h
  have h4 : sayingB saying_ = true := by simpa using h3
  obtain ⟨l, hl⟩ := its_of_saying h4
  exact ⟨T.l_Letter.cl, T.l_Letter.na _ (by simp), by simp, by decide, T.l_Letter.cl, T.l_Letter.na _ (by simp), by decide +kernel, by decide, l, hl, T.l_Letter.cl, T.l_Letter.na _ (by simp), by decide +kernel, by decide, _, rfl, h1, h2, h4, l, hl, rfl⟩
theorem m_Letter (X : Defs K mg a_QUOTING a_SIDES a_BadName i_BadName a_BadNumber i_BadNumber a_BadSaying i_BadSaying a_Letter i_Letter q_Letter) (T : Txt K mg a_QUOTING a_SIDES a_BadName i_BadName a_BadNumber i_BadNumber a_BadSaying i_BadSaying a_Letter i_Letter q_Letter) : MakX P w K mg base "Letter" 8 a_Letter (SpNew K a_Letter ["account", "number", "saying"] pre_Letter post_Letter (exc_Letter a_QUOTING a_SIDES a_BadName i_BadName a_BadNumber i_BadNumber a_BadSaying i_BadSaying a_Letter i_Letter q_Letter)) := by
  have c_is_name := c_is_name (P := P) (w := w) (base := base) X T
  have c_is_whole_1 := c_is_whole_1 (P := P) (w := w) (base := base) X T
  have c_is_saying := c_is_saying (P := P) (w := w) (base := base) X T
  have o_BadName := o_BadName (P := P) (w := w) (base := base) X T
  have o_BadNumber := o_BadNumber (P := P) (w := w) (base := base) X T
  have o_BadSaying := o_BadSaying (P := P) (w := w) (base := base) X T
  obtain ⟨fd, F, b⟩ := X.e_Letter
  refine ⟨i_Letter, fd, _, T.l_Letter.mak, fnNew (N := N_Letter___init__) (u_Letter T) F sc_Letter___init__ (fun ds h => ?_) (fun f cdv A outer s H E hr ng => ⟨_, (pss_cons (ps_if (pt_not (pt_val (peg_cal c_is_name hr (by decide) ng rfl (pa_cons (pv 1) pa_nil)))) (pss_one (ps_raiseO o_BadName hr (by decide) rfl (takes_of rfl rfl rfl rfl) rfl (pa_cons (pv 1) pa_nil))) pss_nil)
 (pss_cons (ps_if (pt_not (pt_val (peg_cal c_is_whole_1 hr (by decide) ng rfl (pa_cons (pv 2) (pa_cons pe_int pa_nil))))) (pss_one (ps_raiseO o_BadNumber hr (by decide) rfl (takes_of rfl rfl rfl rfl) rfl (pa_cons pe_str (pa_cons (pv 2) pa_nil)))) pss_nil)
 (pss_cons (ps_if (pt_not (pt_val (peg_cal c_is_saying hr (by decide) ng rfl (pa_cons (pv 3) pa_nil)))) (pss_one (ps_raiseO o_BadSaying hr (by decide) rfl (takes_of rfl rfl rfl rfl) rfl (pa_cons (pv 3) pa_nil))) pss_nil)
 (pss_cons (ps_fld (pv 0) (pv 1) rfl)
 (pss_cons (ps_fld (pv 0) (pv 2) rfl)
 (pss_one (ps_fld (pv 0) (pe_callTy (call_tuple_ofk (K := K)) (by rfl) T.b_tuple (by decide +kernel) (pa_cons (pv 3) pa_nil)) rfl))))))), rfl⟩) (fun _ => rfl) (fun E x dx ds hp => ?_), T.l_Letter.m, b⟩
  · match ds, h with
    | [_, _, _], _ => rfl
  · match ds, hp with
    | [account_, number_, saying_], hp => exact w_atS (u_Letter T E) (v_Letter T E hp) rfl rfl rfl
theorem lk_a {a n s : D} : lookD fLet [a, n, s] "account" = some a := if_pos rfl
theorem lk_n {a n s : D} : lookD fLet [a, n, s] "number" = some n := by
  show (if ("number" : Str) = "account" then some a else if ("number" : Str) = "number" then some n else _) = some n
  rw [if_neg (by decide +kernel)]; exact if_pos rfl
theorem lk_s {a n s : D} : lookD fLet [a, n, s] "saying" = some s := by
  show (if ("saying" : Str) = "account" then some a else if ("saying" : Str) = "number" then some n else if ("saying" : Str) = "saying" then some s else _) = some s
  rw [if_neg (by decide +kernel), if_neg (by decide +kernel)]; exact if_pos rfl
theorem ok3 {a n s : D} (ha : GD 60 10000000 a) (hn : GD 60 10000000 n) (hs : GD 60 10000000 s) : (D.tup [a, n, s]).ok = true :=
  (gdT (k := 60) (GDs.cons ha (GDs.cons hn (GDs.cons hs (GDs.nil (n := 0))))) (k' := 61) (n' := 40000000) (by decide) (by decide)).ok
abbrev pre_Letter_eq (a_QUOTING a_SIDES a_BadName i_BadName a_BadNumber i_BadNumber a_BadSaying i_BadSaying a_Letter i_Letter q_Letter : Addr) : List D → Prop
  | [self_, other_] => LetOk a_Letter self_ ∧ (LetOk a_Letter other_ ∨ (∃ i, other_ = .int i) ∨ ∃ l, other_ = .tup l)
  | _ => False
abbrev post_Letter_eq (a_QUOTING a_SIDES a_BadName i_BadName a_BadNumber i_BadNumber a_BadSaying i_BadSaying a_Letter i_Letter q_Letter : Addr) : List D → D → Prop
  | [self_, other_], r => r = .bl (letEq self_ other_)
  | _, _ => False
def u_Letter_eq (T : Txt K mg a_QUOTING a_SIDES a_BadName i_BadName a_BadNumber i_BadNumber a_BadSaying i_BadSaying a_Letter i_Letter q_Letter) : WS K L2.E0 := (WS.seq (WS.ifS (WT.not (WT.b (WE.isC a_Letter T.l_Letter.is (WE.var 1))))
 (WS.ret (WM.up (WE.bl false)))
 WS.next)
 (WS.ret (WM.up (WE.op O2.eq (WE.tup (WA.cons (WE.fldR "account" (WE.var 0)) (WA.cons (WE.fldR "number" (WE.var 0)) (WA.cons (WE.fldR "saying" (WE.var 0)) WA.nil)))) (WE.tup (WA.cons (WE.fldR "account" (WE.var 1)) (WA.cons (WE.fldR "number" (WE.var 1)) (WA.cons (WE.fldR "saying" (WE.var 1)) WA.nil))))))))
theorem v_Letter_eq {self_ other_ : D} (T : Txt K mg a_QUOTING a_SIDES a_BadName i_BadName a_BadNumber i_BadNumber a_BadSaying i_BadSaying a_Letter i_Letter q_Letter) (hp : LetOk a_Letter self_ ∧ (LetOk a_Letter other_ ∨ (∃ i, other_ = .int i) ∨ ∃ l, other_ = .tup l)) : (u_Letter_eq T).w noX [.dat self_, .dat other_] (retW fun r => r = .bl (letEq self_ other_)) := by
  unfold u_Letter_eq

  obtain ⟨⟨a, n, l, rfl, ga, gn, gl⟩, ho⟩ := hp
  unfold letD
  walk_at "w"
  rcases ho with ⟨a', n', l', rfl, ga', gn', gl'⟩ | ⟨i, rfl⟩ | ⟨l', rfl⟩
  · unfold letD
    exact ⟨true, if_pos rfl, (fun h => nomatch h), fun _ => ⟨_, _, _, rfl, T.l_Letter.cl, T.l_Letter.na _ (by simp), _, lk_a, _, _, _, rfl, T.l_Letter.cl, T.l_Letter.na _ (by simp), _, lk_n, _, _, _, rfl, T.l_Letter.cl, T.l_Letter.na _ (by simp), _, lk_s, by decide,
      _, _, _, rfl, T.l_Letter.cl, T.l_Letter.na _ (by simp), _, lk_a, _, _, _, rfl, T.l_Letter.cl, T.l_Letter.na _ (by simp), _, lk_n, _, _, _, rfl, T.l_Letter.cl, T.l_Letter.na _ (by simp), _, lk_s, by decide, ok3 ga gn gl, ok3 ga' gn' gl', rfl⟩⟩
  · exact ⟨false, rfl, fun _ => rfl, fun h => nomatch h⟩
  · exact ⟨false, rfl, fun _ => rfl, fun h => nomatch h⟩
theorem c_Letter_eq (X : Defs K mg a_QUOTING a_SIDES a_BadName i_BadName a_BadNumber i_BadNumber a_BadSaying i_BadSaying a_Letter i_Letter q_Letter) (T : Txt K mg a_QUOTING a_SIDES a_BadName i_BadName a_BadNumber i_BadNumber a_BadSaying i_BadSaying a_Letter i_Letter q_Letter) : ∃ fd, FnG P w K mg base CX0 1 q_Letter fd ["self", "other"] (SpP K (pre_Letter_eq a_QUOTING a_SIDES a_BadName i_BadName a_BadNumber i_BadNumber a_BadSaying i_BadSaying a_Letter i_Letter q_Letter) (post_Letter_eq a_QUOTING a_SIDES a_BadName i_BadName a_BadNumber i_BadNumber a_BadSaying i_BadSaying a_Letter i_Letter q_Letter)) ∧ Binds K fd ["self", "other"] [] := by
  obtain ⟨fd, F, b⟩ := X.h_Letter
  refine ⟨fd, fn_W (N := N_Letter___eq__) (u_Letter_eq T) F sc_Letter___eq__ (fun ds h => ?_) (fun f cdv A outer s H E hr ng => ⟨_, (pss_cons (ps_if (pt_not (pt_val (pe_callB call_isi (by rfl) T.b_isinstance (by decide +kernel) (pa_cons (pv 1) (pa_cons (pe_globE (v := .ref a_Letter) rfl ⟨_, T.l_Letter.m, rfl⟩) pa_nil))))) (pss_one (ps_ret pe_bl)) pss_nil)
 (pss_one (ps_ret (pe_cmpR (op_eqDk (K := K) (Room.units hr)) (pe_tup (pa_cons (pe_fld (pv 0) rfl) (pa_cons (pe_fld (pv 0) rfl) (pa_cons (pe_fld (pv 0) rfl) pa_nil)))) (pe_tup (pa_cons (pe_fld (pv 1) rfl) (pa_cons (pe_fld (pv 1) rfl) (pa_cons (pe_fld (pv 1) rfl) pa_nil)))) (nomark _))))), rfl⟩) rfl (fun ds hp => ?_), b⟩
  · match ds, h with
    | [_, _], _ => rfl
  · match ds, hp with
    | [self_, other_], hp => exact w_at (u_Letter_eq T) (v_Letter_eq T hp) rfl rfl rfl
end
end K23
set_option maxRecDepth 100000
set_option maxHeartbeats 8000000
namespace K23
open PySem L2 PyProof.Rows DL
/-- what the law compares kind by kind -/
def SamD : Nat → D → Prop
  | _, .non => True
  | _, .bl _ => True
  | _, .int _ => True
  | _, .str z => PyData.strOk z = true
  | n + 1, .tup ds => ds.length ≤ 1000 ∧ ∀ d ∈ ds, SamD n d
  | _, _ => False
theorem sam_str {n : Nat} {z : Str} (h : PyData.strOk z = true) : SamD n (.str z) := by cases n <;> simpa [SamD] using h
theorem sam_int {n : Nat} {i : Int} : SamD n (.int i) := by cases n <;> simp [SamD]
theorem sam_bl {n : Nat} {i : Bool} : SamD n (.bl i) := by cases n <;> simp [SamD]
theorem sam_tup {n : Nat} {ds : List D} (h : ds.length ≤ 1000) (k : ∀ d ∈ ds, SamD n d) : SamD (n + 1) (.tup ds) := by simp only [SamD]; exact ⟨h, k⟩
theorem TxD.sam {h : Bool} {m n : Nat} {d : D} (t : TxD h m d) : SamD n d := by
  obtain ⟨z, rfl, h1, _⟩ := t.so
  exact sam_str h1
theorem sam_all {n : Nat} {ds : List D} (h : ∀ d ∈ ds, SamD n d) : ∀ d ∈ ds, SamD n d := h
theorem noLsts_of {ds : List D} (h : ∀ d ∈ ds, noLst d = true) : noLsts ds = true := by
  induction ds with
  | nil => rfl
  | cons d ds ih =>
    show (noLst d && noLsts ds) = true
    rw [h d List.mem_cons_self, ih fun e he => h e (List.mem_cons_of_mem _ he)]; rfl
theorem noLst_sam : ∀ {n : Nat} {d : D}, SamD n d → noLst d = true
  | _, .non, _ => rfl
  | _, .bl _, _ => rfl
  | _, .int _, _ => rfl
  | _, .str _, _ => rfl
  | 0, .tup ds, h => by simp [SamD] at h
  | n + 1, .tup ds, h => by
    have h' : ds.length ≤ 1000 ∧ ∀ d ∈ ds, SamD n d := by simpa [SamD] using h
    exact noLsts_of fun d hd => noLst_sam (h'.2 d hd)
  | n, .lst ds, h => by cases n <;> simp [SamD] at h
  | n, .dct _ _, h => by cases n <;> simp [SamD] at h
  | n, .obj _ _ _, h => by cases n <;> simp [SamD] at h
  | n, .exc _ _ _ _, h => by cases n <;> simp [SamD] at h
def txB (h : Bool) (n : Nat) (z : Str) : Bool := decide (z.length ≤ n) && (z.cps.toList.all (fun c => decide (c ∈ sLF.cps.toList)) && (match z.cps.toList with | c :: _ => decide (c ∈ sLET.cps.toList) | [] => !h))
theorem TxD.lit {z : Str} (e : txB true 12 z = true := by decide +kernel) : TxD true 12 (.str z) := by
  obtain ⟨h1, h⟩ := Bool.and_eq_true_iff.mp e
  obtain ⟨h2, h3⟩ := Bool.and_eq_true_iff.mp h
  refine ⟨z, rfl, of_decide_eq_true h1, fun c hc => of_decide_eq_true (List.all_eq_true.mp h2 c hc), fun _ => ?_⟩
  cases q : z.cps.toList with
  | nil => rw [q] at h3; cases h3
  | cons c cs => rw [q] at h3; exact ⟨c, cs, rfl, of_decide_eq_true h3⟩
/-- names: four names -/
def NmOk (d : D) : Prop := ∃ a b c e, d = .lst [a, b, c, e] ∧ TxD true 12 a ∧ TxD true 12 b ∧ TxD true 12 c ∧ TxD true 12 e
theorem nm_mem {a b c e d : D} (ha : TxD true 12 a) (hb : TxD true 12 b) (hc : TxD true 12 c) (he : TxD true 12 e) (h : d ∈ [a, b, c, e]) : TxD true 12 d := by
  simp only [List.mem_cons, List.not_mem_nil, or_false] at h
  rcases h with rfl | rfl | rfl | rfl <;> assumption
def RuOk (d : D) : Prop := ∃ (a : D) (l : List D), d = .tup (a :: l) ∧ TxD true 12 a
def FoOk (d : D) : Prop := ∃ ks ds rs, d = .dct ks ds ∧ valD ks ds (.inr "rules") = some (.tup rs) ∧ rs.length = 3 ∧ ∀ r ∈ rs, RuOk r
def SaOk (d : D) : Prop := ∃ ds, d = .tup ds ∧ 2 ≤ ds.length ∧ ds.length ≤ 4 ∧ GDs 5 200000 ds ∧ sayingB (.tup ds) = true ∧ SamD 4 (.tup ds)
/-! ### one point, or none, in a text -/
theorem pt_eq : ("." : Str) = ⟨#[46]⟩ := by decide +kernel
theorem pt_no {z : Str} (h : ∀ c ∈ z.cps.toList, c ∈ sLF.cps.toList) : 46 ∉ z.cps.toList := fun q => by
  have n : ¬ 46 ∈ sLF.cps.toList := by decide +kernel
  exact n (h _ q)
theorem count_join : ∀ {ps : List Str}, ps ≠ [] → (∀ p ∈ ps, 46 ∉ p.cps.toList) → (Str.join "." ps).cps.toList.count 46 + 1 = ps.length
  | [], h, _ => absurd rfl h
  | [x], _, h => by
    show x.cps.toList.count 46 + 1 = 1
    rw [List.count_eq_zero_of_not_mem (h x (by simp))]
  | x :: y :: r, _, h => by
    show ((x ++ ("." : Str)) ++ Str.join "." (y :: r)).cps.toList.count 46 + 1 = _
    have ih := count_join (ps := y :: r) (by simp) fun p hp => h p (List.mem_cons_of_mem _ hp)
    rw [cps_add, cps_add, List.count_append, List.count_append, List.count_eq_zero_of_not_mem (h x (by simp))]
    have e : ("." : Str).cps.toList.count 46 = 1 := by decide +kernel
    rw [e]
    simp only [List.length_cons] at ih ⊢
    omega
theorem cut_at : ∀ {A B P Q : List Nat}, 46 ∉ A → 46 ∉ P → P ++ 46 :: Q = A ++ 46 :: B → P = A ∧ Q = B
  | [], B, [], Q, _, _, e => by simpa using e
  | [], B, p :: P, Q, _, h, e => by
    simp only [List.nil_append, List.cons_append, List.cons.injEq] at e
    exact absurd (by rw [e.1]; exact List.mem_cons_self) h
  | a :: A, B, [], Q, h, _, e => by
    simp only [List.nil_append, List.cons_append, List.cons.injEq] at e
    exact absurd (by rw [e.1]; exact List.mem_cons_self) h
  | a :: A, B, p :: P, Q, h1, h2, e => by
    simp only [List.cons_append, List.cons.injEq] at e
    obtain ⟨h3, h4⟩ := cut_at (fun z => h1 (List.mem_cons_of_mem _ z)) (fun z => h2 (List.mem_cons_of_mem _ z)) e.2
    exact ⟨by rw [e.1, h3], h4⟩
theorem str_ext {a b : Str} (h : a.cps.toList = b.cps.toList) : a = b := by
  obtain ⟨x⟩ := a
  obtain ⟨y⟩ := b
  have e : x = y := Array.toList_inj.mp h
  rw [e]
theorem split_parts {x : Str} : (Txt.split x ".") ≠ [] ∧ (∀ p ∈ Txt.split x ".", 46 ∉ p.cps.toList) ∧ Str.join "." (Txt.split x ".") = x := by
  refine ⟨fun e => (by have := split_pos (x := x) (y := "."); rw [e] at this; cases this), ?_, StrLaws.join_split x "."⟩
  rw [pt_eq]
  exact StrLaws.split_free x 46
theorem subj_one {x : D} (t : TxD true 12 x) : subjB x = true := by
  have hn := t.name
  obtain ⟨z, rfl, _, h2, _⟩ := t
  obtain ⟨h0, h1, h3⟩ := split_parts (x := z)
  have hc := count_join h0 h1
  rw [h3, List.count_eq_zero_of_not_mem (pt_no h2)] at hc
  have e : Txt.split z "." = [z] := by
    match q : Txt.split z ".", hc with
    | [p], _ =>
      rw [q] at h3
      have : p = z := h3
      rw [this]
  show (decide ((Txt.split z ".").length < 3) && (Txt.split z ".").all fun p => nameB (.str p)) = true
  rw [e]
  simp [hn]
theorem subj_two {a b : Str} (ta : TxD true 12 (.str a)) (tb : TxD true 12 (.str b)) : subjB (.str (a ++ "." ++ b)) = true := by
  have na := ta.name
  have nb := tb.name
  obtain ⟨_, ea, _, ha, _⟩ := ta
  obtain ⟨_, eb, _, hb, _⟩ := tb
  cases ea; cases eb
  obtain ⟨h0, h1, h3⟩ := split_parts (x := a ++ "." ++ b)
  have hc := count_join h0 h1
  have e1 : ("." : Str).cps.toList = [46] := by decide +kernel
  rw [h3, cps_add, cps_add, e1, List.count_append, List.count_append, List.count_eq_zero_of_not_mem (pt_no ha), List.count_eq_zero_of_not_mem (pt_no hb)] at hc
  have e : Txt.split (a ++ "." ++ b) "." = [a, b] := by
    match q : Txt.split (a ++ "." ++ b) ".", hc with
    | [p, r], _ =>
      rw [q] at h3 h1
      have e2 : (p ++ ("." : Str)) ++ r = a ++ "." ++ b := h3
      have e3 := congrArg (fun z : Str => z.cps.toList) e2
      simp only [cps_add, e1, List.append_assoc, List.singleton_append] at e3
      obtain ⟨e4, e5⟩ := cut_at (pt_no ha) (h1 p (by simp)) e3
      rw [str_ext e4, str_ext e5]
  show (decide ((Txt.split (a ++ "." ++ b) ".").length < 3) && (Txt.split (a ++ "." ++ b) ".").all fun p => nameB (.str p)) = true
  rw [e]
  simp [na, nb]
/-! ### right sayings -/
theorem say_units {w : Str} {a : D} {i : Int} (hw : w = "vouch" ∨ w = "circle") (ha : TxD true 12 a) (h0 : 0 ≤ i) (h1 : i ≤ 24) : sayingB (.tup [.str w, a, .int i]) = true := by
  show (if w = "vouch" ∨ w = "circle" then nameB a && wholeB 0 (some 24) (.int i) else if w = "back" ∨ w = "block" then nameB a && (D.int i).isB else false) = true
  rw [if_pos hw, ha.name]
  show (true && (decide (0 ≤ i) && decide (i ≤ 24))) = true
  rw [decide_eq_true h0, decide_eq_true h1]; rfl
theorem say_truth {w : Str} {a : D} {b : Bool} (hw : w = "back" ∨ w = "block") (ha : TxD true 12 a) : sayingB (.tup [.str w, a, .bl b]) = true := by
  have n : ¬ (w = "vouch" ∨ w = "circle") := by rcases hw with rfl | rfl <;> simp [ne_back_vouch, ne_back_circle, ne_block_vouch, ne_block_circle]
  show (if w = "vouch" ∨ w = "circle" then nameB a && wholeB 0 (some 24) (.bl b) else if w = "back" ∨ w = "block" then nameB a && true else false) = true
  rw [if_neg n, if_pos hw, ha.name]; rfl
theorem say_take {a : D} (ha : TxD true 12 a) : sayingB (.tup [.str "take", a]) = true := by
  show (decide (("take" : Str) = "take") && nameB a) = true
  rw [ha.name, decide_eq_true rfl]; rfl
theorem say_speak {a b c : D} (ha : TxD true 12 a) (hb : subjB b = true) (hc : sideB c = true) : sayingB (.tup [.str "speak", a, b, c]) = true := by
  show (if ("speak" : Str) = "speak" then nameB a && (subjB b && sideB c) else if ("speak" : Str) = "post" then nameB a && (nameB b && bodyB c) else false) = true
  rw [if_pos rfl, ha.name, hb, hc]; rfl
theorem say_post {a b c : D} (ha : TxD true 12 a) (hb : TxD true 12 b) (hc : bodyB c = true) : sayingB (.tup [.str "post", a, b, c]) = true := by
  show (if ("post" : Str) = "speak" then nameB a && (subjB b && sideB c) else if ("post" : Str) = "post" then nameB a && (nameB b && bodyB c) else false) = true
  rw [if_neg ne_post_speak, if_pos rfl, ha.name, hb.name, hc]; rfl
theorem side_ok {d : D} (h : d ∈ [D.str "for", .str "for", .str "for", .str "against", .str "none"]) : sideB d = true := by
  have q : ∀ e ∈ [("for" : Str), "for", "for", "against", "none"], sideB (.str e) = true := by decide +kernel
  simp only [List.mem_cons, List.not_mem_nil, or_false] at h
  rcases h with rfl | rfl | rfl | rfl | rfl <;> exact q _ (by simp)
theorem sam_row {n : Nat} {w : Str} {ds : List D} (hl : ds.length ≤ 100) (hw : PyData.strOk w = true := by decide +kernel) (h : ∀ d ∈ ds, SamD n d) : SamD (n + 1) (.tup (.str w :: ds)) :=
  sam_tup (by rw [List.length_cons]; omega) fun d hd => by
    rcases List.mem_cons.mp hd with rfl | z
    · exact sam_str hw
    · exact h d z
theorem piece_see {a b : D} (ha : TxD true 12 a) (hb : TxD true 12 b) : pieceB (.tup [.str "see", a, b]) = true := by
  show (decide (("see" : Str) = "see") && (nameB a && nameB b)) = true
  rw [ha.name, hb.name, decide_eq_true rfl]; rfl
theorem piece_copy {a b : D} {i : Int} (ha : TxD true 12 a) (hb : TxD true 12 b) (h : 1 ≤ i) : pieceB (.tup [.str "copy", a, b, .int i]) = true := by
  show (decide (("copy" : Str) = "copy") && ((nameB a && nameB b) && (decide (1 ≤ i) && true))) = true
  rw [ha.name, hb.name, decide_eq_true rfl, decide_eq_true h]; rfl
theorem piece_word {a : D} (ha : wordB a = true) : pieceB (.tup [.str "word", a]) = true := by
  show (decide (("word" : Str) = "word") && wordB a) = true
  rw [ha, decide_eq_true rfl]; rfl
theorem word_of {z : Str} (h0 : 1 ≤ z.length) (h1 : z.length ≤ 12) (hc : ∀ c ∈ z.cps.toList, c ∈ sLF.cps.toList) (n1 : ¬ z = "see") (n2 : ¬ z = "copy") : wordB (.str z) = true := by
  unfold wordB
  rw [madeB_in (by omega) (by omega)]
  have a1 : (z.cps.toList.all fun c => decide (c ∈ sLF.cps.toList)) = true := List.all_eq_true.mpr fun c hm => decide_eq_true (hc c hm)
  rw [a1]
  show (true && !(decide (z = "see") || decide (z = "copy"))) = true
  rw [decide_eq_false n1, decide_eq_false n2]; rfl
theorem word_x {z : Str} (h : z = "see" ∨ z = "copy") : wordB (.str (z ++ "x")) = true := by
  rcases h with rfl | rfl <;> decide +kernel
theorem body_of {ds : List D} (hl : ds.length ≤ 20) (h : ∀ d ∈ ds, pieceB d = true) : bodyB (.tup ds) = true := by
  show (decide (ds.length ≤ 20) && ds.all pieceB) = true
  rw [decide_eq_true hl, List.all_eq_true.mpr h]; rfl
end K23
set_option maxRecDepth 100000
set_option maxHeartbeats 8000000
namespace K23
open PySem L2 PyProof.Rows DL
section
variable {P : Program} {w : World} {K : PySem.W.Frag} {mg : Str → Option Value} {base : Heap} {a_QUOTING a_SIDES a_BadName i_BadName a_BadNumber i_BadNumber a_BadSaying i_BadSaying a_Letter i_Letter q_Letter : Addr}
local macro_rules | `(tactic| walk_at "w") => `(tactic| simp only [DL.w_var, DL.w_int, DL.w_bl, DL.w_str, DL.w_non, DL.w_ktup, DL.w_op, DL.w_neg, DL.w_chain, DL.w_nil, DL.w_cons, DL.w_tup, DL.w_lst, DL.w_tst, DL.w_tb, DL.w_not, DL.w_yes, DL.w_and, DL.w_or, DL.w_andV, DL.w_orV, DL.w_notV, DL.w_ite, DL.w_none, DL.w_some, DL.w_sl, DL.w_cb, DL.w_isi, DL.w_isi2, DL.w_call, DL.w_callD, DL.w_callX, DL.w_callG, DL.w_split, DL.w_dget, DL.w_knil, DL.w_kcons, DL.w_dispK, DL.w_seqI, DL.w_rng1, DL.w_rng2, DL.w_enum, DL.w_zip, DL.w_lc, DL.w_borrow, DL.w_up, DL.w_popAt, DL.w_next, DL.w_brk, DL.w_cont, DL.w_seq, DL.w_ret, DL.w_retN, DL.w_asg, DL.w_asgT, DL.w_asgOwn, DL.w_drop, DL.w_ifS, DL.w_append, DL.w_raiseO, DL.w_xf, DL.w_tryAsg, DL.w_mkX, DL.w_fldR, DL.w_fld, DL.w_isC, DL.q_eqO, DL.q_neO, DL.w_tryMk, DL.slfAt_0, DL.slfAt_s, DL.w_asgLend, DL.lendAt_o, DL.lendAt_d, DL.lendAt_s, DL.w_frz, frzAt_0, frzAt_d, frzAt_u, frzAt_s, DL.w_forS, DL.w_par, DL.w_parLE,
  DL.q_int, DL.q_cmp, DL.q_intC, DL.q_addI, DL.q_addS, DL.q_addT, DL.q_addL, DL.q_mulI, DL.q_mulS, DL.q_mulL, DL.q_eq, DL.q_ne, DL.q_isN, DL.q_isB, DL.q_notN, DL.q_inT, DL.q_inL, DL.q_inS, DL.q_ninT, DL.q_ninL, DL.q_ninS, DL.q_ixL, DL.q_ixT, DL.q_ixS, DL.n_len, DL.n_list, DL.n_tuple, DL.n_all, DL.n_any, DL.n_sum, DL.n_sortedS, DL.n_min2, DL.n_max2, DL.n_int1, DL.n_strI, DL.n_repr, DL.g_name, DL.is_name, cut_tup, cut_lst,  isi_str, isi_int, isi_bool, isi_tuple, isi_list,
  datAt_0, datAt_s, ownAt_0, ownAt_s, penIs_0, penIs_s, setD_nil, setD_cons, wipeG, List.set_cons_zero, List.set_cons_succ, List.set_nil, List.map_cons, List.map_nil, List.cons_append, List.nil_append,
  D.bl.injEq, D.int.injEq, D.str.injEq, exists_eq_left', exists_eq_left, exists_and_left, exists_eq', exists_eq, true_and, and_true, true_imp_iff, false_imp_iff, Bool.true_eq_false, Bool.false_eq_true, forall_const, Bool.not_true, Bool.not_false, List.length_cons, List.length_nil, eqv_str, eqv_int, ok_int, ok_bl, ok_non, forall_eq, atI_0, atI_1, atI_2, atI_3, List.getElem?_cons_zero, List.getElem?_cons_succ, List.getElem?_nil, Option.some.injEq, Sk.own.injEq, len_tup, len_lst, its_tup, its_lst, itemsOf_tup, itemsOf_lst, itemsOf_str, isS_str, isT_tup, isL_lst, isI_int, isB_bl, builtin_str, builtin_tup, builtin_lst, builtin_int, builtin_bl, builtin_non, D.sign_one, List.all_cons, List.all_nil, Bool.and_true])

theorem wl_nil {χ : Xq} {Γ : List Sk} : ∀ ξ : List D → Prop, ξ [] → (WA.nil (K := K) (E := L2.E0)).w χ Γ ξ := fun _ h => h
theorem wl_cons {χ : Xq} {Γ : List Sk} {a : DL.WE K L2.E0} {r : WA K L2.E0} {d : D} {ds : List D} (ha : ∀ φ : D → Prop, φ d → a.w χ Γ φ) (hr : ∀ ξ : List D → Prop, ξ ds → r.w χ Γ ξ) : ∀ ξ : List D → Prop, ξ (d :: ds) → (WA.cons a r).w χ Γ ξ := fun _ h => ha _ (hr _ h)
theorem mem_ints {d : D} {l : List Int} {lo hi : Int} (h : d ∈ l.map D.int) (hb : ∀ i ∈ l, lo ≤ i ∧ i ≤ hi) : ∃ k : Int, d = .int k ∧ lo ≤ k ∧ k ≤ hi := by
  obtain ⟨i, h1, h2⟩ := List.mem_map.mp h
  exact ⟨i, h2.symm, hb i h1⟩
abbrev m_law_some_ladder : Nat := 258
abbrev pre_law_some_ladder : List D → Prop
  | [] => True
  | _ => False
abbrev post_law_some_ladder : List D → D → Prop
  | [], r => ∃ ls ns, r = .tup [.tup ls, .tup ns] ∧ 0 < ls.length ∧ ls.length ≤ 5
  | _, _ => False
def u_law_some_ladder (T : Txt K mg a_QUOTING a_SIDES a_BadName i_BadName a_BadNumber i_BadNumber a_BadSaying i_BadSaying a_Letter i_Letter q_Letter) : WS K L2.E0 := (WS.seq (WS.asg 1 (WM.up (WE.callG m_law_pick pre_law_pick post_law_pick 0 (WA.cons (WE.lst (WA.cons (WE.int 0) (WA.cons (WE.int 1) (WA.cons (WE.int 1) (WA.cons (WE.int 2) (WA.cons (WE.int 2) (WA.cons (WE.int 3) (WA.cons (WE.int 4) WA.nil)))))))) WA.nil))))
 (WS.seq (WS.asgOwn 2 (WA.cons (WE.callG m_law_pick pre_law_pick post_law_pick 0 (WA.cons (WE.lst (WA.cons (WE.int 0) (WA.cons (WE.int 1) (WA.cons (WE.int 1) (WA.cons (WE.int 2) WA.nil))))) WA.nil)) WA.nil))
 (WS.seq (WS.forS (WI.rng1 (WA.cons (WE.var 1) WA.nil)) (WG.name 3)
 (WS.append 2 (WM.up (WE.cb ON.min2 (WA.cons (WE.int 24) (WA.cons (WE.op O2.add (WE.borrow 2 (WE.op O2.ix (WE.var 2) (WE.neg (WE.int 1)))) (WE.callG m_law_pick pre_law_pick post_law_pick 0 (WA.cons (WE.lst (WA.cons (WE.int 0) (WA.cons (WE.int 1) (WA.cons (WE.int 1) (WA.cons (WE.int 2) (WA.cons (WE.int 3) (WA.cons (WE.int 9) WA.nil))))))) WA.nil))) WA.nil))))) 64)
 (WS.seq (WS.asg 4 (WM.up (WE.lc (WI.rng1 (WA.cons (WE.var 1) WA.nil)) (WG.name 3) WT.yes (WE.tup (WA.cons (WE.op O2.add (WE.int 1) (WE.callG m_law_draw pre_law_draw post_law_draw 0 (WA.cons (WE.int 3) WA.nil))) (WA.cons (WE.callG m_law_pick pre_law_pick post_law_pick 0 (WA.cons (WE.lst (WA.cons (WE.int 0) (WA.cons (WE.int 0) (WA.cons (WE.var 3) (WA.cons (WE.callG m_law_draw pre_law_draw post_law_draw 0 (WA.cons (WE.op O2.add (WE.var 1) (WE.int 1)) WA.nil)) WA.nil))))) WA.nil)) WA.nil))) 64)))
 (WS.frz 2 (WS.ret (WM.up (WE.tup (WA.cons (WE.cb ON.tuple (WA.cons (WE.var 2) WA.nil)) (WA.cons (WE.cb ON.tuple (WA.cons (WE.var 4) WA.nil)) WA.nil))))))))))
theorem v_law_some_ladder (T : Txt K mg a_QUOTING a_SIDES a_BadName i_BadName a_BadNumber i_BadNumber a_BadSaying i_BadSaying a_Letter i_Letter q_Letter) (hp : True) : (u_law_some_ladder T).w noX [.pen, .un, .un, .un, .un] (retW fun r => ∃ ls ns, r = .tup [.tup ls, .tup ns] ∧ 0 < ls.length ∧ ls.length ≤ 5) := by
  unfold u_law_some_ladder
  walk_at "w"
  try simp only [pre_law_pick, post_law_pick, pre_law_draw, post_law_draw]
  try walk_at "w"
  try simp only [pre_law_pick, post_law_pick, pre_law_draw, post_law_draw]
  try walk_at "w"


  refine ⟨by decide, by decide, fun d hd => ?_⟩
  obtain ⟨k, rfl, k0, k4⟩ := mem_ints (l := [0, 1, 1, 2, 2, 3, 4]) (lo := 0) (hi := 4) hd (by decide)
  refine ⟨by decide, by decide, fun d1 hd1 => ?_⟩
  obtain ⟨k1, rfl, _, _⟩ := mem_ints (l := [0, 1, 1, 2]) (lo := 0) (hi := 4) hd1 (by decide)
  refine ⟨by decide, k, rfl, by omega, ?_⟩
  refine ForP.of (fun j G => ∃ l i s, G = [.pen, .dat (.int k), .own (l ++ [.int i]), s, .un] ∧ l.length = j) (by simp; omega) ⟨[], k1, _, rfl, rfl⟩ ?_ ?_
  · rintro j d G hd ⟨l, i, s, rfl, h1⟩
    refine ⟨_, rfl, ?_⟩
    obtain ⟨hj, rfl⟩ := rngD_get hd
    walk_at "w"
    simp only [pre_law_pick, post_law_pick]
    try walk_at "w"
    refine ⟨.int i, atI_neg1, rfl, by decide, by decide, fun d hd => ?_⟩
    obtain ⟨m, rfl, _, _⟩ := mem_ints (l := [0, 1, 1, 2, 3, 9]) (lo := 0) (hi := 9) hd (by decide)
    walk_at "w"
    exact ⟨by simp; omega, l ++ [.int i], _, _, rfl, by simp; omega⟩
  · rintro G ⟨l, i, s, rfl, h1⟩
    rw [rngD_len] at h1
    walk_at "w"
    refine ⟨k, rfl, by omega, ?_⟩
    refine LcP.each (fun _ => True) (by simp; omega) (fun d hd => ?_) fun es h2 h3 => ?_
    · obtain ⟨j, hj, rfl⟩ := mem_rngD hd
      refine ⟨_, rfl, ?_⟩
      walk_at "w"
      simp only [pre_law_draw, post_law_draw, pre_law_pick, post_law_pick]
      try walk_at "w"
      refine ⟨by decide, ?_⟩
      rintro d ⟨a, rfl, _, _⟩
      walk_at "w"
      refine ⟨by omega, ?_⟩
      rintro d ⟨b, rfl, _, _⟩
      exact ⟨by decide, by decide, fun d hd => by decide⟩
    · walk_at "w"
      exact ⟨by decide, _, _, rfl, by simp, by simp; omega⟩
theorem c_law_some_ladder (X : Defs K mg a_QUOTING a_SIDES a_BadName i_BadName a_BadNumber i_BadNumber a_BadSaying i_BadSaying a_Letter i_Letter q_Letter) (T : Txt K mg a_QUOTING a_SIDES a_BadName i_BadName a_BadNumber i_BadNumber a_BadSaying i_BadSaying a_Letter i_Letter q_Letter) : Cal P w K mg base "_law_some_ladder" 3 ["pen"] [] (SpG K m_law_some_ladder pre_law_some_ladder post_law_some_ladder) := by
  have c_law_pick := c_law_pick (P := P) (w := w) (base := base) X T
  have c_law_draw := c_law_draw (P := P) (w := w) (base := base) X T
  refine cal_WG (N := N_law_some_ladder) (u_law_some_ladder T) X.d_law_some_ladder sc_law_some_ladder (fun ds h => ?_) (fun f cdv A outer s H E hr ng => ⟨_, (pss_cons (ps_set (i := 1) sc_law_some_ladder.nd rfl (Or.inr rfl) (peg_cal c_law_pick hr (by decide) ng rfl (pa_cons (pv 0) (pa_cons (pe_lst (pa_cons pe_int (pa_cons pe_int (pa_cons pe_int (pa_cons pe_int (pa_cons pe_int (pa_cons pe_int (pa_cons pe_int pa_nil)))))))) pa_nil))))
 (pss_cons (ps_set (i := 2) sc_law_some_ladder.nd rfl (Or.inl rfl) (pe_lst (pa_cons (peg_cal c_law_pick hr (by decide) ng rfl (pa_cons (pv 0) (pa_cons (pe_lst (pa_cons pe_int (pa_cons pe_int (pa_cons pe_int (pa_cons pe_int pa_nil))))) pa_nil))) pa_nil)))
 (pss_cons (ps_for PassesOwn.never rfl (pi_range1 rfl T.b_range (pa_cons (pv 1) pa_nil)) (pg_name (i := 3) sc_law_some_ladder.nd rfl (Or.inl rfl)) (pss_one (ps_expr (pe_bm PySem.F.plainAttrs_list PySem.F.slot_list_append PySem.F.type_list_append mt_append (pv 2) (pa_cons (pe_callB (call_min2 rfl) (by rfl) T.b_min (by decide +kernel) (pa_cons pe_int (pa_cons (pe_op (op_addUk (K := K)) (pe_ix (ix_seqk (K := K)) (pv 2) (pe_un un_neg pe_int) (fun _ _ => rfl)) (peg_cal c_law_pick hr (by decide) ng rfl (pa_cons (pv 0) (pa_cons (pe_lst (pa_cons pe_int (pa_cons pe_int (pa_cons pe_int (pa_cons pe_int (pa_cons pe_int (pa_cons pe_int pa_nil))))))) pa_nil)))) pa_nil))) pa_nil)))))
 (pss_cons (ps_setLc (i := 4) (own := [("rank", 3)]) (g := (gName 3)) (tt := tYes) (by rfl) sc_law_some_ladder.nd rfl rfl (sw_true rfl rfl rfl (by decide +kernel)) (pi_range1 rfl T.b_range (pa_cons (pv 1) pa_nil)) (blkOk_by (own := [("rank", 3)]) (N := N_law_some_ladder) (sc := defScope s_law_some_ladder) (by decide +kernel)) (fun _ _ _ _ _ => (pg_name (i := 3) sc_law_some_ladder.nd rfl (Or.inl rfl))) (fun _ _ _ _ _ => pts_nil) (fun _ _ _ _ _ => (pe_tup (pa_cons (pe_op (op_addUk (K := K)) pe_int (peg_cal c_law_draw hr (by decide) ng rfl (pa_cons (pv 0) (pa_cons pe_int pa_nil)))) (pa_cons (peg_cal c_law_pick hr (by decide) ng rfl (pa_cons (pv 0) (pa_cons (pe_lst (pa_cons pe_int (pa_cons pe_int (pa_cons (pv 3) (pa_cons (peg_cal c_law_draw hr (by decide) ng rfl (pa_cons (pv 0) (pa_cons (pe_op (op_addUk (K := K)) (pv 1) pe_int) pa_nil))) pa_nil))))) pa_nil))) pa_nil)))))
 (pss_one (ps_ret (pe_tup (pa_cons (pe_callTy (call_tuple_ofk (K := K)) (by rfl) T.b_tuple (by decide +kernel) (pa_cons (pv 2) pa_nil)) (pa_cons (pe_callTy (call_tuple_ofk (K := K)) (by rfl) T.b_tuple (by decide +kernel) (pa_cons (pv 4) pa_nil)) pa_nil))))))))), rfl⟩) (Nat.le_of_eq rfl) fun ds hp => ?_
  · match ds, h with
    | [], _ => rfl
  · match ds, hp with
    | [], hp => exact w_at (u_law_some_ladder T) (v_law_some_ladder T hp) rfl rfl rfl
abbrev m_law_some_forum : Nat := 643
abbrev pre_law_some_forum : List D → Prop
  | [names_] => NmOk names_
  | _ => False
abbrev post_law_some_forum : List D → D → Prop
  | [names_], r => FoOk r
  | _, _ => False
def u_law_some_forum (T : Txt K mg a_QUOTING a_SIDES a_BadName i_BadName a_BadNumber i_BadNumber a_BadSaying i_BadSaying a_Letter i_Letter q_Letter) : WS K L2.E0 := (WS.seq (WS.asgT (WG.seq (WGs.cons (WG.name 2) (WGs.cons (WG.name 3) WGs.nil))) (WE.callG m_law_some_ladder pre_law_some_ladder post_law_some_ladder 0 WA.nil))
 (WS.seq (WS.asgOwn 4 WA.nil)
 (WS.seq (WS.forS (WI.seq (WE.sl (WE.var 1) WO.none (WO.some (WE.op O2.add (WE.int 1) (WE.callG m_law_draw pre_law_draw post_law_draw 0 (WA.cons (WE.int 2) WA.nil)))))) (WG.name 5)
 (WS.append 4 (WM.up (WE.tup (WA.cons (WE.var 5) (WA.cons (WE.op O2.add (WE.int 1) (WE.callG m_law_draw pre_law_draw post_law_draw 0 (WA.cons (WE.int 6) WA.nil))) (WA.cons (WE.callG m_law_pick pre_law_pick post_law_pick 0 (WA.cons (WE.lst (WA.cons (WE.int 0) (WA.cons (WE.op (O2.int fun i j => i - j) (WE.cb ON.len (WA.cons (WE.var 2) WA.nil)) (WE.int 1)) (WA.cons (WE.op (O2.int fun i j => i - j) (WE.cb ON.len (WA.cons (WE.var 2) WA.nil)) (WE.int 1)) WA.nil)))) WA.nil)) WA.nil)))))) 64)
 (WS.seq (WS.asgOwn 6 WA.nil)
 (WS.seq (WS.forS (WI.seq (WE.lst (WA.cons (WE.tup (WA.cons (WE.str "hide") (WA.cons (WE.str "post") WA.nil))) (WA.cons (WE.tup (WA.cons (WE.str "mute") (WA.cons (WE.str "account") WA.nil))) (WA.cons (WE.tup (WA.cons (WE.str "move") (WA.cons (WE.str "name") WA.nil))) WA.nil))))) (WG.tup (WGs.cons (WG.name 7) (WGs.cons (WG.name 8) WGs.nil)))
 (WS.append 6 (WM.up (WE.tup (WA.cons (WE.var 7) (WA.cons (WE.var 8) (WA.cons (WE.op O2.add (WE.int 1) (WE.callG m_law_draw pre_law_draw post_law_draw 0 (WA.cons (WE.int 3) WA.nil))) (WA.cons (WE.callG m_law_pick pre_law_pick post_law_pick 0 (WA.cons (WE.lst (WA.cons (WE.int 0) (WA.cons (WE.int 0) (WA.cons (WE.callG m_law_draw pre_law_draw post_law_draw 0 (WA.cons (WE.cb ON.len (WA.cons (WE.var 2) WA.nil)) WA.nil)) WA.nil)))) WA.nil)) WA.nil))))))) 64)
 (WS.seq (WS.asg 9 (WM.up (WE.tup (WA.cons (WE.tup (WA.cons (WE.str "tea") (WA.cons WE.non WA.nil))) (WA.cons (WE.tup (WA.cons (WE.str "den") (WA.cons (WE.cb ON.tuple (WA.cons (WE.cb ON.sortedS (WA.cons (WE.sl (WE.var 1) (WO.some (WE.neg (WE.int 2))) WO.none) WA.nil)) WA.nil)) WA.nil))) WA.nil)))))
 (WS.frz 6 (WS.frz 4 (WS.ret (WM.up (WE.dispK (WDK.cons "lends" (WE.var 2) (WDK.cons "needs" (WE.var 3) (WDK.cons "founders" (WE.cb ON.tuple (WA.cons (WE.var 4) WA.nil)) (WDK.cons "rules" (WE.cb ON.tuple (WA.cons (WE.callG m_law_shuffled pre_law_shuffled post_law_shuffled 0 (WA.cons (WE.var 6) WA.nil)) WA.nil)) (WDK.cons "threads" (WE.var 9) WDK.nil))))) (by decide +kernel) (by decide))))))))))))
theorem v_law_some_forum {names_ : D} (T : Txt K mg a_QUOTING a_SIDES a_BadName i_BadName a_BadNumber i_BadNumber a_BadSaying i_BadSaying a_Letter i_Letter q_Letter) (hp : NmOk names_) : (u_law_some_forum T).w noX [.pen, .dat names_, .un, .un, .un, .un, .un, .un, .un, .un] (retW fun r => FoOk r) := by
  unfold u_law_some_forum
  walk_at "w"
  try simp only [pre_law_some_ladder, post_law_some_ladder, pre_law_shuffled, post_law_shuffled, pre_law_draw, post_law_draw, pre_law_pick, post_law_pick]
  try walk_at "w"
  try simp only [pre_law_some_ladder, post_law_some_ladder, pre_law_shuffled, post_law_shuffled, pre_law_draw, post_law_draw, pre_law_pick, post_law_pick]
  try walk_at "w"


  obtain ⟨a, b, c, e, rfl, ha, hb, hc, he⟩ := hp
  rintro d ⟨ls, ns, rfl, h1, h2⟩
  refine ⟨[(2, .tup ls), (3, .tup ns)], rfl, by decide, ?_⟩
  walk_at "w"
  refine ⟨by decide, ?_⟩
  rintro d ⟨k, rfl, k0, k1⟩
  walk_at "w"
  refine ⟨rfl, ?_⟩
  have hcut : (cutD [a, b, c, e] none (some (1 + k))).length ≤ 4 := by
    unfold DL.cutD
    rw [List.length_take, List.length_drop]
    simp; omega
  refine ForP.of (fun j G => ∃ l s, G = [.pen, .dat (.lst [a, b, c, e]), .dat (.tup ls), .dat (.tup ns), .own l, s, .un, .un, .un, .un] ∧ l.length ≤ j) (by omega) ⟨[], _, rfl, by simp⟩ ?_ ?_
  · rintro j d G hd ⟨l, s, rfl, hl⟩
    have hj : j < 4 := by have := (List.getElem?_eq_some_iff.mp hd).1; omega
    refine ⟨_, rfl, ?_⟩
    walk_at "w"
    simp only [pre_law_draw, post_law_draw, pre_law_pick, post_law_pick]
    try walk_at "w"
    refine ⟨by decide, ?_⟩
    rintro d1 ⟨k1, rfl, _, _⟩
    walk_at "w"
    exact ⟨by decide, ⟨by decide, by decide⟩, fun d3 _ => ⟨by decide, by omega, _, _, rfl, by simp; omega⟩⟩
  · rintro G ⟨l, s, rfl, hl⟩
    walk_at "w"
    refine ⟨by decide, by decide, by decide, by decide, by decide, ?_⟩
    refine ForP.of (fun j G => ∃ f s7 s8, G = [.pen, .dat (.lst [a, b, c, e]), .dat (.tup ls), .dat (.tup ns), .own l, s, .own f, s7, s8, .un] ∧ f.length = j ∧ ∀ e ∈ f, RuOk e) (by decide) ⟨[], _, _, rfl, rfl, fun _ h => nomatch h⟩ ?_ ?_
    · rintro j d G hd ⟨f, s7, s8, rfl, hf, hr⟩
      have hj : j < 3 := (List.getElem?_eq_some_iff.mp hd).1
      obtain ⟨x, y, rfl, hx⟩ : ∃ x y, d = .tup [x, y] ∧ TxD true 12 x := by
        have hm := List.mem_of_getElem? hd
        simp only [List.mem_cons, List.not_mem_nil, or_false] at hm
        rcases hm with rfl | rfl | rfl
        · exact ⟨_, _, rfl, TxD.lit⟩
        · exact ⟨_, _, rfl, TxD.lit⟩
        · exact ⟨_, _, rfl, TxD.lit⟩
      refine ⟨[(7, x), (8, y)], rfl, ?_⟩
      walk_at "w"
      simp only [pre_law_draw, post_law_draw, pre_law_pick, post_law_pick]
      try walk_at "w"
      refine ⟨by decide, ?_⟩
      rintro d1 ⟨k1, rfl, _, _⟩
      walk_at "w"
      refine ⟨⟨by omega, by omega⟩, ?_⟩
      rintro d2 ⟨k2, rfl, _, _⟩
      refine ⟨by decide, ⟨by decide, by decide⟩, fun d3 _ => ⟨by decide, by omega, _, _, _, rfl, by simp [hf], fun e he => ?_⟩⟩
      rcases List.mem_append.mp he with q | q
      · exact hr e q
      · rw [List.mem_singleton.mp q]; exact ⟨_, _, rfl, hx⟩
    · rintro G ⟨f, s7, s8, rfl, hf, hr⟩
      refine ⟨by decide, ?_⟩
      simp only [datAt_0, datAt_s]
      obtain ⟨zb, rfl, _, _⟩ := hc.so
      obtain ⟨zc, rfl, _, _⟩ := he.so
      have ec : D.cut (some (-2)) none (D.lst [a, b, .str zb, .str zc]) = D.lst [.str zb, .str zc] := rfl
      rw [ec]
      refine ⟨rfl, rfl, (show 2 < 64 by decide), fun ys _ _ => ⟨ys.map D.str, rfl, by decide, by decide, ?_⟩⟩
      simp only [frzAt_0, frzAt_d, frzAt_u, frzAt_s, List.set_cons_zero, List.set_cons_succ]
      simp only [DL.w_dispK, DL.w_kcons, DL.w_knil, DL.w_var, datAt_0, datAt_s, DL.w_cb, DL.w_cons, DL.w_nil, DL.n_tuple, its_lst, Option.some.injEq, exists_eq_left', DL.w_callG, penIs_0, true_and, pre_law_shuffled, post_law_shuffled]
      refine ⟨by rw [hf]; decide, ?_⟩
      rintro d ⟨es, rfl, h5, h6⟩
      refine ⟨es, rfl, ?_⟩
      exact ⟨_, _, es, rfl, rfl, by rw [h5, hf]; rfl, fun r hr' => hr r (h6 r hr')⟩
theorem c_law_some_forum (X : Defs K mg a_QUOTING a_SIDES a_BadName i_BadName a_BadNumber i_BadNumber a_BadSaying i_BadSaying a_Letter i_Letter q_Letter) (T : Txt K mg a_QUOTING a_SIDES a_BadName i_BadName a_BadNumber i_BadNumber a_BadSaying i_BadSaying a_Letter i_Letter q_Letter) : Cal P w K mg base "_law_some_forum" 4 ["pen", "names"] [] (SpG K m_law_some_forum pre_law_some_forum post_law_some_forum) := by
  have c_law_some_ladder := c_law_some_ladder (P := P) (w := w) (base := base) X T
  have c_law_shuffled := c_law_shuffled (P := P) (w := w) (base := base) X T
  have c_law_draw := c_law_draw (P := P) (w := w) (base := base) X T
  have c_law_pick := c_law_pick (P := P) (w := w) (base := base) X T
  refine cal_WG (N := N_law_some_forum) (u_law_some_forum T) X.d_law_some_forum sc_law_some_forum (fun ds h => ?_) (fun f cdv A outer s H E hr ng => ⟨_, (pss_cons (ps_asg (peg_cal c_law_some_ladder hr (by decide) ng rfl (pa_cons (pv 0) pa_nil)) (pg_seqk (K := K) rfl (pgs_cons (pg_name (i := 2) sc_law_some_forum.nd rfl (Or.inl rfl)) (pgs_cons (pg_name (i := 3) sc_law_some_forum.nd rfl (Or.inl rfl)) pgs_nil))))
 (pss_cons (ps_set (i := 4) sc_law_some_forum.nd rfl (Or.inl rfl) (pe_lst pa_nil))
 (pss_cons (ps_for PassesOwn.never rfl (pi_seqk (K := K) (pe_slice (sl_Uk (K := K)) (pv 1) po_none (po_some (pe_op (op_addUk (K := K)) pe_int (peg_cal c_law_draw hr (by decide) ng rfl (pa_cons (pv 0) (pa_cons pe_int pa_nil))))))) (pg_name (i := 5) sc_law_some_forum.nd rfl (Or.inl rfl)) (pss_one (ps_expr (pe_bm PySem.F.plainAttrs_list PySem.F.slot_list_append PySem.F.type_list_append mt_append (pv 4) (pa_cons (pe_tup (pa_cons (pv 5) (pa_cons (pe_op (op_addUk (K := K)) pe_int (peg_cal c_law_draw hr (by decide) ng rfl (pa_cons (pv 0) (pa_cons pe_int pa_nil)))) (pa_cons (peg_cal c_law_pick hr (by decide) ng rfl (pa_cons (pv 0) (pa_cons (pe_lst (pa_cons pe_int (pa_cons (pe_op op_sub (pe_callB (call_lenk (K := K)) (by rfl) T.b_len (by decide +kernel) (pa_cons (pv 2) pa_nil)) pe_int) (pa_cons (pe_op op_sub (pe_callB (call_lenk (K := K)) (by rfl) T.b_len (by decide +kernel) (pa_cons (pv 2) pa_nil)) pe_int) pa_nil)))) pa_nil))) pa_nil)))) pa_nil)))))
 (pss_cons (ps_set (i := 6) sc_law_some_forum.nd rfl (Or.inl rfl) (pe_lst pa_nil))
 (pss_cons (ps_for PassesOwn.never rfl (pi_seqk (K := K) (pe_lst (pa_cons (pe_tup (pa_cons pe_str (pa_cons pe_str pa_nil))) (pa_cons (pe_tup (pa_cons pe_str (pa_cons pe_str pa_nil))) (pa_cons (pe_tup (pa_cons pe_str (pa_cons pe_str pa_nil))) pa_nil))))) (pg_tupk (K := K) rfl (pgs_cons (pg_name (i := 7) sc_law_some_forum.nd rfl (Or.inl rfl)) (pgs_cons (pg_name (i := 8) sc_law_some_forum.nd rfl (Or.inl rfl)) pgs_nil))) (pss_one (ps_expr (pe_bm PySem.F.plainAttrs_list PySem.F.slot_list_append PySem.F.type_list_append mt_append (pv 6) (pa_cons (pe_tup (pa_cons (pv 7) (pa_cons (pv 8) (pa_cons (pe_op (op_addUk (K := K)) pe_int (peg_cal c_law_draw hr (by decide) ng rfl (pa_cons (pv 0) (pa_cons pe_int pa_nil)))) (pa_cons (peg_cal c_law_pick hr (by decide) ng rfl (pa_cons (pv 0) (pa_cons (pe_lst (pa_cons pe_int (pa_cons pe_int (pa_cons (peg_cal c_law_draw hr (by decide) ng rfl (pa_cons (pv 0) (pa_cons (pe_callB (call_lenk (K := K)) (by rfl) T.b_len (by decide +kernel) (pa_cons (pv 2) pa_nil)) pa_nil))) pa_nil)))) pa_nil))) pa_nil))))) pa_nil)))))
 (pss_cons (ps_set (i := 9) sc_law_some_forum.nd rfl (Or.inl rfl) (pe_tup (pa_cons (pe_tup (pa_cons pe_str (pa_cons pe_non pa_nil))) (pa_cons (pe_tup (pa_cons pe_str (pa_cons (pe_callTy (call_tuple_ofk (K := K)) (by rfl) T.b_tuple (by decide +kernel) (pa_cons (pe_callB (cr_sortedSk (K := K)) (by rfl) T.b_sorted (by decide +kernel) (pa_cons (pe_slice (sl_Uk (K := K)) (pv 1) (po_some (pe_un un_neg pe_int)) po_none) pa_nil)) pa_nil)) pa_nil))) pa_nil))))
 (pss_one (ps_ret (pe_disp (pps_cons pe_str (pv 2) (pps_cons pe_str (pv 3) (pps_cons pe_str (pe_callTy (call_tuple_ofk (K := K)) (by rfl) T.b_tuple (by decide +kernel) (pa_cons (pv 4) pa_nil)) (pps_cons pe_str (pe_callTy (call_tuple_ofk (K := K)) (by rfl) T.b_tuple (by decide +kernel) (pa_cons (peg_cal c_law_shuffled hr (by decide) ng rfl (pa_cons (pv 0) (pa_cons (pv 6) pa_nil))) pa_nil)) (pps_cons pe_str (pv 9) pps_nil))))) (by rfl) (by rfl) (fun z => by cases z) (by decide)))))))))), rfl⟩) (Nat.le_of_eq rfl) fun ds hp => ?_
  · match ds, h with
    | [_], _ => rfl
  · match ds, hp with
    | [names_], hp => exact w_at (u_law_some_forum T) (v_law_some_forum T hp) rfl rfl rfl
abbrev m_law_some_saying : Nat := 8
abbrev pre_law_some_saying : List D → Prop
  | [rows_, names_] => FoOk rows_ ∧ NmOk names_
  | _ => False
abbrev post_law_some_saying : List D → D → Prop
  | [rows_, names_], r => SaOk r
  | _, _ => False
def u_law_some_saying (T : Txt K mg a_QUOTING a_SIDES a_BadName i_BadName a_BadNumber i_BadNumber a_BadSaying i_BadSaying a_Letter i_Letter q_Letter) : WS K L2.E0 := (WS.seq (WS.asg 3 (WM.up (WE.callG m_law_draw pre_law_draw post_law_draw 0 (WA.cons (WE.int 9) WA.nil))))
 (WS.seq (WS.ifS (WT.tst (WE.op (O2.cmp fun i j => decide (i < j)) (WE.var 3) (WE.int 4)))
 (WS.ret (WM.up (WE.tup (WA.cons (WE.str "vouch") (WA.cons (WE.callG m_law_pick pre_law_pick post_law_pick 0 (WA.cons (WE.var 2) WA.nil)) (WA.cons (WE.callG m_law_pick pre_law_pick post_law_pick 0 (WA.cons (WE.lst (WA.cons (WE.int 0) (WA.cons (WE.int 1) (WA.cons (WE.int 1) (WA.cons (WE.int 2) (WA.cons (WE.int 3) (WA.cons (WE.int 24) WA.nil))))))) WA.nil)) WA.nil))))))
 WS.next)
 (WS.seq (WS.ifS (WT.tst (WE.op (O2.cmp fun i j => decide (i < j)) (WE.var 3) (WE.int 7)))
 (WS.ret (WM.up (WE.tup (WA.cons (WE.str "back") (WA.cons (WE.callG m_law_pick pre_law_pick post_law_pick 0 (WA.cons (WE.var 2) WA.nil)) (WA.cons (WE.op (O2.cmp fun i j => decide (j < i)) (WE.callG m_law_draw pre_law_draw post_law_draw 0 (WA.cons (WE.int 5) WA.nil)) (WE.int 0)) WA.nil))))))
 WS.next)
 (WS.seq (WS.asg 4 (WM.up (WE.op O2.ix (WE.lst (WA.cons (WE.op O2.ix (WE.var 2) (WE.int 0)) (WA.cons (WE.op O2.add (WE.op O2.add (WE.op O2.ix (WE.var 2) (WE.neg (WE.int 1))) (WE.str ".")) (WE.op O2.ix (WE.var 2) (WE.int 0))) WA.nil))) (WE.callG m_law_draw pre_law_draw post_law_draw 0 (WA.cons (WE.int 2) WA.nil)))))
 (WS.ret (WM.up (WE.tup (WA.cons (WE.str "speak") (WA.cons (WE.op O2.ix (WE.op O2.ix (WE.dget (WE.var 1) (WE.str "rules")) (WE.callG m_law_draw pre_law_draw post_law_draw 0 (WA.cons (WE.int 2) WA.nil))) (WE.int 0)) (WA.cons (WE.var 4) (WA.cons (WE.callG m_law_pick pre_law_pick post_law_pick 0 (WA.cons (WE.lst (WA.cons (WE.str "for") (WA.cons (WE.str "for") (WA.cons (WE.str "for") (WA.cons (WE.str "against") (WA.cons (WE.str "none") WA.nil)))))) WA.nil)) WA.nil)))))))))))
theorem v_law_some_saying {rows_ names_ : D} (T : Txt K mg a_QUOTING a_SIDES a_BadName i_BadName a_BadNumber i_BadNumber a_BadSaying i_BadSaying a_Letter i_Letter q_Letter) (hp : FoOk rows_ ∧ NmOk names_) : (u_law_some_saying T).w noX [.pen, .dat rows_, .dat names_, .un, .un] (retW fun r => SaOk r) := by
  unfold u_law_some_saying
  walk_at "w"
  try simp only [pre_law_draw, post_law_draw, pre_law_pick, post_law_pick]
  try walk_at "w"
  try simp only [pre_law_draw, post_law_draw, pre_law_pick, post_law_pick]
  try walk_at "w"


  obtain ⟨⟨ks, vs, rs, rfl, hv, hr, hra⟩, a, b, c, e, rfl, ha, hb, hc, he⟩ := hp
  refine ⟨by decide, ?_⟩
  rintro d ⟨k, rfl, k0, k1⟩
  walk_at "w"
  refine ⟨fun _ => ⟨⟨by decide, by decide⟩, fun d hd => ⟨by decide, ⟨by decide, by decide⟩, fun d2 hd2 => ⟨by decide, ?_⟩⟩⟩, fun _ => ⟨fun _ => ⟨⟨by decide, by decide⟩, fun d hd => ⟨by decide, ?_⟩⟩, fun _ => ?_⟩⟩
  · obtain ⟨i, rfl, i0, i1⟩ := mem_ints (l := [0, 1, 1, 2, 3, 24]) (lo := 0) (hi := 24) hd2 (by decide)
    have hn := nm_mem ha hb hc he hd
    exact ⟨_, rfl, by simp, by simp, (GDs.cons (k := 3) (n := 200) gdS (GDs.cons hn.so.gd (GDs.cons (gdI (n := 2000) (by omega)) (GDs.nil (n := 0))))).mono (by decide) (by decide), say_units (.inl rfl) hn i0 i1, sam_row (by simp) (h := fun d hd => by
      simp only [List.mem_cons, List.not_mem_nil, or_false] at hd
      rcases hd with rfl | rfl
      · exact hn.sam
      · exact sam_int)⟩
  · rintro d2 ⟨i, rfl, _, _⟩
    walk_at "w"
    have hn := nm_mem ha hb hc he hd
    exact ⟨by decide, _, rfl, by simp, by simp, (GDs.cons (k := 3) (n := 200) gdS (GDs.cons hn.so.gd (GDs.cons (GD.bl (n := 10)) (GDs.nil (n := 0))))).mono (by decide) (by decide), say_truth (.inl rfl) hn, sam_row (by simp) (h := fun d hd => by
      simp only [List.mem_cons, List.not_mem_nil, or_false] at hd
      rcases hd with rfl | rfl
      · exact hn.sam
      · exact sam_bl)⟩
  · obtain ⟨za, rfl, _, la⟩ := ha.so
    obtain ⟨ze, rfl, _, le⟩ := he.so
    have hy : SO 49 (.str (ze ++ "." ++ za)) := by
      refine ⟨_, rfl, strOk_add (strOk_add (by have := he.so; obtain ⟨_, q, w, _⟩ := this; cases q; exact w) (by decide +kernel)) (by have := ha.so; obtain ⟨_, q, w, _⟩ := this; cases q; exact w), ?_⟩
      have l1 : ("." : Str).length = 1 := by decide +kernel
      rw [str_len_add, str_len_add, l1]; omega
    have l1 : ("." : Str).length = 1 := by decide +kernel
    refine ⟨.str ze, rfl, by rw [l1]; omega, ?_⟩
    refine ⟨by rw [str_len_add, l1]; omega, by decide, by decide, ?_⟩
    rintro d ⟨i, rfl, i0, i1⟩
    refine ix_its (ds := [.str za, .str (ze ++ "." ++ za)]) rfl i0 i1 fun u hu => getD_str hv ?_
    have hu' : SO 49 u ∧ subjB u = true := by
      simp only [List.mem_cons, List.not_mem_nil, or_false] at hu
      rcases hu with rfl | rfl
      · exact ⟨ha.so.mono (by decide), subj_one ha⟩
      · exact ⟨hy, subj_two he ha⟩
    refine ⟨by decide, ?_⟩
    rintro d ⟨j, rfl, j0, j1⟩
    refine ix_its (ds := rs) rfl j0 (by rw [hr]; omega) fun q hq => ?_
    obtain ⟨x0, l0, rfl, hx0⟩ := hra q hq
    walk_at "w"
    refine ⟨by decide, ⟨by decide, by decide⟩, fun d4 hd4 => ⟨by decide, ?_⟩⟩
    have h4 : SO 10 d4 := by
      simp only [List.mem_cons, List.not_mem_nil, or_false] at hd4
      rcases hd4 with rfl | rfl | rfl | rfl | rfl <;> exact SO.lit
    refine ⟨_, rfl, by simp, by simp, (GDs.cons (k := 3) (n := 200) gdS (GDs.cons hx0.so.gd (GDs.cons hu'.1.gd (GDs.cons h4.gd (GDs.nil (n := 0)))))).mono (by decide) (by decide), say_speak hx0 hu'.2 (side_ok hd4), sam_row (by simp) (h := fun d hd => ?_)⟩
    simp only [List.mem_cons, List.not_mem_nil, or_false] at hd
    rcases hd with rfl | rfl | rfl
    · exact hx0.sam
    · obtain ⟨_, rfl, w, _⟩ := hu'.1; exact sam_str w
    · obtain ⟨_, rfl, w, _⟩ := h4; exact sam_str w
theorem c_law_some_saying (X : Defs K mg a_QUOTING a_SIDES a_BadName i_BadName a_BadNumber i_BadNumber a_BadSaying i_BadSaying a_Letter i_Letter q_Letter) (T : Txt K mg a_QUOTING a_SIDES a_BadName i_BadName a_BadNumber i_BadNumber a_BadSaying i_BadSaying a_Letter i_Letter q_Letter) : Cal P w K mg base "_law_some_saying" 3 ["pen", "rows", "names"] [] (SpG K m_law_some_saying pre_law_some_saying post_law_some_saying) := by
  have c_law_draw := c_law_draw (P := P) (w := w) (base := base) X T
  have c_law_pick := c_law_pick (P := P) (w := w) (base := base) X T
  refine cal_WG (N := N_law_some_saying) (u_law_some_saying T) X.d_law_some_saying sc_law_some_saying (fun ds h => ?_) (fun f cdv A outer s H E hr ng => ⟨_, (pss_cons (ps_set (i := 3) sc_law_some_saying.nd rfl (Or.inl rfl) (peg_cal c_law_draw hr (by decide) ng rfl (pa_cons (pv 0) (pa_cons pe_int pa_nil))))
 (pss_cons (ps_if (pt_cmpR op_lt (pv 3) pe_int (nomark _)) (pss_one (ps_ret (pe_tup (pa_cons pe_str (pa_cons (peg_cal c_law_pick hr (by decide) ng rfl (pa_cons (pv 0) (pa_cons (pv 2) pa_nil))) (pa_cons (peg_cal c_law_pick hr (by decide) ng rfl (pa_cons (pv 0) (pa_cons (pe_lst (pa_cons pe_int (pa_cons pe_int (pa_cons pe_int (pa_cons pe_int (pa_cons pe_int (pa_cons pe_int pa_nil))))))) pa_nil))) pa_nil)))))) pss_nil)
 (pss_cons (ps_if (pt_cmpR op_lt (pv 3) pe_int (nomark _)) (pss_one (ps_ret (pe_tup (pa_cons pe_str (pa_cons (peg_cal c_law_pick hr (by decide) ng rfl (pa_cons (pv 0) (pa_cons (pv 2) pa_nil))) (pa_cons (pe_cmpR op_gt (peg_cal c_law_draw hr (by decide) ng rfl (pa_cons (pv 0) (pa_cons pe_int pa_nil))) pe_int (nomark _)) pa_nil)))))) pss_nil)
 (pss_cons (ps_set (i := 4) sc_law_some_saying.nd rfl (Or.inl rfl) (pe_ix (ix_seqk (K := K)) (pe_lst (pa_cons (pe_ix (ix_seqk (K := K)) (pv 2) pe_int (fun _ _ => rfl)) (pa_cons (pe_op (op_addUk (K := K)) (pe_op (op_addUk (K := K)) (pe_ix (ix_seqk (K := K)) (pv 2) (pe_un un_neg pe_int) (fun _ _ => rfl)) pe_str) (pe_ix (ix_seqk (K := K)) (pv 2) pe_int (fun _ _ => rfl))) pa_nil))) (peg_cal c_law_draw hr (by decide) ng rfl (pa_cons (pv 0) (pa_cons pe_int pa_nil))) (fun _ _ => rfl)))
 (pss_one (ps_ret (pe_tup (pa_cons pe_str (pa_cons (pe_ix (ix_seqk (K := K)) (pe_ix (ix_seqk (K := K)) (pe_dget (hu_of hr) (pv 1) pe_str (fun _ _ => rfl)) (peg_cal c_law_draw hr (by decide) ng rfl (pa_cons (pv 0) (pa_cons pe_int pa_nil))) (fun _ _ => rfl)) pe_int (fun _ _ => rfl)) (pa_cons (pv 4) (pa_cons (peg_cal c_law_pick hr (by decide) ng rfl (pa_cons (pv 0) (pa_cons (pe_lst (pa_cons pe_str (pa_cons pe_str (pa_cons pe_str (pa_cons pe_str (pa_cons pe_str pa_nil)))))) pa_nil))) pa_nil))))))))))), rfl⟩) (Nat.le_of_eq rfl) fun ds hp => ?_
  · match ds, h with
    | [_, _], _ => rfl
  · match ds, hp with
    | [rows_, names_], hp => exact w_at (u_law_some_saying T) (v_law_some_saying T hp) rfl rfl rfl
abbrev m_law_some_word : Nat := 65
abbrev pre_law_some_word : List D → Prop
  | [] => True
  | _ => False
abbrev post_law_some_word : List D → D → Prop
  | [], r => SO 13 r ∧ wordB r = true
  | _, _ => False
def u_law_some_word (T : Txt K mg a_QUOTING a_SIDES a_BadName i_BadName a_BadNumber i_BadNumber a_BadSaying i_BadSaying a_Letter i_Letter q_Letter) : WS K L2.E0 := (WS.seq (WS.asg 1 (WM.up (WE.str "")))
 (WS.seq (WS.forS (WI.rng1 (WA.cons (WE.op O2.add (WE.int 1) (WE.callG m_law_draw pre_law_draw post_law_draw 0 (WA.cons (WE.int 12) WA.nil))) WA.nil)) (WG.name 2)
 (WS.asg 1 (WM.up (WE.op O2.add (WE.var 1) (WE.op O2.ix (WE.str "abcdefghijklmnopqrstuvwxyz0123456789") (WE.callG m_law_draw pre_law_draw post_law_draw 0 (WA.cons (WE.int 36) WA.nil)))))) 64)
 (WS.ret (WM.up (WE.ite (WT.tst (WE.op O2.inn (WE.var 1) (WE.lst (WA.cons (WE.str "see") (WA.cons (WE.str "copy") WA.nil))))) (WE.op O2.add (WE.var 1) (WE.str "x")) (WE.var 1))))))
theorem v_law_some_word (T : Txt K mg a_QUOTING a_SIDES a_BadName i_BadName a_BadNumber i_BadNumber a_BadSaying i_BadSaying a_Letter i_Letter q_Letter) (hp : True) : (u_law_some_word T).w noX [.pen, .un, .un] (retW fun r => SO 13 r ∧ wordB r = true) := by
  unfold u_law_some_word
  walk_at "w"
  try simp only [pre_law_draw, post_law_draw]
  try walk_at "w"
  try simp only [pre_law_draw, post_law_draw]
  try walk_at "w"


  refine ⟨by decide, ?_⟩
  rintro d ⟨k2, rfl, j0, j1⟩
  walk_at "w"
  refine ⟨1 + k2, rfl, by omega, ?_⟩
  refine ForP.of (fun j G => ∃ z s, G = [.pen, .dat (.str z), s] ∧ (∀ c ∈ z.cps.toList, c ∈ sLF.cps.toList) ∧ z.length = j) (by simp; omega) ⟨"", _, rfl, by decide +kernel, rfl⟩ ?_ ?_
  · rintro j d G hd ⟨z, s, rfl, h1, h2⟩
    refine ⟨_, rfl, ?_⟩
    obtain ⟨hj, rfl⟩ := rngD_get hd
    walk_at "w"
    simp only [pre_law_draw, post_law_draw]
    refine ⟨by decide, ?_⟩
    rintro d ⟨k3, rfl, a, b⟩
    refine ix_strs (by decide) a b fun c hc => ?_
    walk_at "w"
    have l1 : (Str.mk #[c]).length = 1 := rfl
    have e36 : ("abcdefghijklmnopqrstuvwxyz0123456789" : Str).cps.toList = sLF.cps.toList := by decide +kernel
    refine ⟨by omega, _, _, rfl, fun e he => ?_, by rw [str_len_add, h2, l1]⟩
    rw [cps_add] at he
    rcases List.mem_append.mp he with he | he
    · exact h1 e he
    · have : e = c := by simpa using he
      subst this; rw [← e36]; exact hc
  · rintro G ⟨z, s, rfl, h1, h2⟩
    simp only [rngD_len] at h2
    have hz : SO 12 (.str z) := ⟨z, rfl, strOk_sub h1 sLF_ok, by omega⟩
    have l1 : ("x" : Str).length = 1 := by decide +kernel
    walk_at "w"
    refine ⟨by decide, rfl, rfl, fun h => ⟨by rw [l1]; omega, ?_, ?_⟩, fun h => ⟨hz.mono (by decide), ?_⟩⟩
    · exact ⟨_, rfl, strOk_add (strOk_sub h1 sLF_ok) (by decide +kernel), by rw [str_len_add, l1]; omega⟩
    · rw [inD_cons, inD_cons, inD_nil] at h
      simp only [Bool.or_false, Bool.or_eq_true, decide_eq_true_eq] at h
      exact word_x h
    · rw [inD_cons, inD_cons, inD_nil] at h
      simp only [Bool.or_false, Bool.or_eq_false_iff, decide_eq_false_iff_not] at h
      exact word_of (by omega) (by omega) h1 h.1 h.2
theorem c_law_some_word (X : Defs K mg a_QUOTING a_SIDES a_BadName i_BadName a_BadNumber i_BadNumber a_BadSaying i_BadSaying a_Letter i_Letter q_Letter) (T : Txt K mg a_QUOTING a_SIDES a_BadName i_BadName a_BadNumber i_BadNumber a_BadSaying i_BadSaying a_Letter i_Letter q_Letter) : Cal P w K mg base "_law_some_word" 2 ["pen"] [] (SpG K m_law_some_word pre_law_some_word post_law_some_word) := by
  have c_law_draw := c_law_draw (P := P) (w := w) (base := base) X T
  refine cal_WG (N := N_law_some_word) (u_law_some_word T) X.d_law_some_word sc_law_some_word (fun ds h => ?_) (fun f cdv A outer s H E hr ng => ⟨_, (pss_cons (ps_set (i := 1) sc_law_some_word.nd rfl (Or.inl rfl) pe_str)
 (pss_cons (ps_for PassesOwn.never rfl (pi_range1 rfl T.b_range (pa_cons (pe_op (op_addUk (K := K)) pe_int (peg_cal c_law_draw hr (by decide) ng rfl (pa_cons (pv 0) (pa_cons pe_int pa_nil)))) pa_nil)) (pg_name (i := 2) sc_law_some_word.nd rfl (Or.inl rfl)) (pss_one (ps_set (i := 1) sc_law_some_word.nd rfl (Or.inl rfl) (pe_op (op_addUk (K := K)) (pv 1) (pe_ix (ix_seqk (K := K)) pe_str (peg_cal c_law_draw hr (by decide) ng rfl (pa_cons (pv 0) (pa_cons pe_int pa_nil))) (fun _ _ => rfl))))))
 (pss_one (ps_ret (pe_ifExp (pt_cmpR (op_inUk (K := K)) (pv 1) (pe_lst (pa_cons pe_str (pa_cons pe_str pa_nil))) (by rfl)) (pe_op (op_addUk (K := K)) (pv 1) pe_str) (pv 1)))))), rfl⟩) (Nat.le_of_eq rfl) fun ds hp => ?_
  · match ds, h with
    | [], _ => rfl
  · match ds, hp with
    | [], hp => exact w_at (u_law_some_word T) (v_law_some_word T hp) rfl rfl rfl
abbrev m_law_some_piece : Nat := 72
abbrev pre_law_some_piece : List D → Prop
  | [names_] => NmOk names_
  | _ => False
abbrev post_law_some_piece : List D → D → Prop
  | [names_], r => GD 3 8000 r ∧ pieceB r = true ∧ SamD 2 r
  | _, _ => False
def u_law_some_piece (T : Txt K mg a_QUOTING a_SIDES a_BadName i_BadName a_BadNumber i_BadNumber a_BadSaying i_BadSaying a_Letter i_Letter q_Letter) : WS K L2.E0 := (WS.seq (WS.asg 2 (WM.up (WE.callG m_law_draw pre_law_draw post_law_draw 0 (WA.cons (WE.int 4) WA.nil))))
 (WS.seq (WS.ifS (WT.tst (WE.op O2.eq (WE.var 2) (WE.int 2)))
 (WS.ret (WM.up (WE.tup (WA.cons (WE.str "see") (WA.cons (WE.callG m_law_pick pre_law_pick post_law_pick 0 (WA.cons (WE.var 1) WA.nil)) (WA.cons (WE.callG m_law_pick pre_law_pick post_law_pick 0 (WA.cons (WE.var 1) WA.nil)) WA.nil))))))
 WS.next)
 (WS.seq (WS.ifS (WT.tst (WE.op O2.eq (WE.var 2) (WE.int 3)))
 (WS.ret (WM.up (WE.tup (WA.cons (WE.str "copy") (WA.cons (WE.callG m_law_pick pre_law_pick post_law_pick 0 (WA.cons (WE.var 1) WA.nil)) (WA.cons (WE.callG m_law_pick pre_law_pick post_law_pick 0 (WA.cons (WE.var 1) WA.nil)) (WA.cons (WE.op O2.add (WE.int 1) (WE.op O2.mul (WE.callG m_law_draw pre_law_draw post_law_draw 0 (WA.cons (WE.int 5) WA.nil)) (WE.callG m_law_pick pre_law_pick post_law_pick 0 (WA.cons (WE.lst (WA.cons (WE.int 1) (WA.cons (WE.op (O2.intC CPow fun i j => i ^ j.toNat) (WE.int 10) (WE.int 30)) WA.nil))) WA.nil)))) WA.nil)))))))
 WS.next)
 (WS.ret (WM.up (WE.tup (WA.cons (WE.str "word") (WA.cons (WE.callG m_law_some_word pre_law_some_word post_law_some_word 0 WA.nil) WA.nil))))))))
theorem v_law_some_piece {names_ : D} (T : Txt K mg a_QUOTING a_SIDES a_BadName i_BadName a_BadNumber i_BadNumber a_BadSaying i_BadSaying a_Letter i_Letter q_Letter) (hp : NmOk names_) : (u_law_some_piece T).w noX [.pen, .dat names_, .un] (retW fun r => GD 3 8000 r ∧ pieceB r = true ∧ SamD 2 r) := by
  unfold u_law_some_piece
  walk_at "w"
  try simp only [pre_law_draw, post_law_draw, pre_law_some_word, post_law_some_word, pre_law_pick, post_law_pick]
  try walk_at "w"
  try simp only [pre_law_draw, post_law_draw, pre_law_some_word, post_law_some_word, pre_law_pick, post_law_pick]
  try walk_at "w"


  obtain ⟨a, b, c, e, rfl, ha, hb, hc, he⟩ := hp
  refine ⟨by decide, ?_⟩
  rintro d ⟨k, rfl, k0, k1⟩
  walk_at "w"
  refine ⟨fun _ => ⟨⟨by decide, by decide⟩, fun d hd => ⟨⟨by decide, by decide⟩, fun d2 hd2 => ⟨by decide, ?_⟩⟩⟩, fun _ => ⟨fun _ => ⟨⟨by decide, by decide⟩, fun d hd => ⟨⟨by decide, by decide⟩, fun d2 hd2 => ⟨by decide, ?_⟩⟩⟩, fun _ => ?_⟩⟩
  · have n1 := nm_mem ha hb hc he hd
    have n2 := nm_mem ha hb hc he hd2
    exact ⟨gdT (GDs.cons (k := 2) (n := 200) gdS (GDs.cons n1.so.gd (GDs.cons n2.so.gd (GDs.nil (n := 0))))), piece_see n1 n2, sam_row (by simp) (h := fun d hd => by
      simp only [List.mem_cons, List.not_mem_nil, or_false] at hd
      rcases hd with rfl | rfl
      · exact n1.sam
      · exact n2.sam)⟩
  · rintro d3 ⟨i, rfl, i0, i1⟩
    have n1 := nm_mem ha hb hc he hd
    have n2 := nm_mem ha hb hc he hd2
    refine ⟨⟨by decide, by decide, by decide⟩, by decide, ⟨by decide, by decide⟩, fun d4 hd4 => ?_⟩
    have e30 : (10 : Int) ^ Int.toNat 30 = 1000000000000000000000000000000 := by decide +kernel
    obtain ⟨j, rfl, j0, j1⟩ : ∃ j : Int, d4 = .int j ∧ 0 ≤ j ∧ j ≤ 1000000000000000000000000000000 := by
      simp only [List.mem_cons, List.not_mem_nil, or_false] at hd4
      rcases hd4 with rfl | rfl
      · exact ⟨1, rfl, by omega, by omega⟩
      · exact ⟨_, rfl, by rw [e30]; omega, by rw [e30]; omega⟩
    walk_at "w"
    have hm : i * j ≤ 4000000000000000000000000000000 := by
      have q1 : i * j ≤ 4 * j := Int.mul_le_mul_of_nonneg_right (by omega) j0
      omega
    have hm0 : 0 ≤ i * j := Int.mul_nonneg i0 j0
    refine ⟨.inl ⟨by omega, by omega⟩, by decide, gdT (GDs.cons (k := 2) (n := 200) gdS (GDs.cons n1.so.gd (GDs.cons n2.so.gd (GDs.cons (gdI (n := 2000) (by omega)) (GDs.nil (n := 0)))))), piece_copy n1 n2 (by omega), sam_row (by simp) (h := fun d hd => ?_)⟩
    simp only [List.mem_cons, List.not_mem_nil, or_false] at hd
    rcases hd with rfl | rfl | rfl
    · exact n1.sam
    · exact n2.sam
    · exact sam_int
  · intro d hd
    refine ⟨by decide, gdT (GDs.cons (k := 2) (n := 200) gdS (GDs.cons hd.1.gd (GDs.nil (n := 0)))), piece_word hd.2, sam_row (by simp) (h := fun d' hd' => ?_)⟩
    simp only [List.mem_cons, List.not_mem_nil, or_false] at hd'
    subst hd'
    obtain ⟨_, rfl, w, _⟩ := hd.1; exact sam_str w
theorem c_law_some_piece (X : Defs K mg a_QUOTING a_SIDES a_BadName i_BadName a_BadNumber i_BadNumber a_BadSaying i_BadSaying a_Letter i_Letter q_Letter) (T : Txt K mg a_QUOTING a_SIDES a_BadName i_BadName a_BadNumber i_BadNumber a_BadSaying i_BadSaying a_Letter i_Letter q_Letter) : Cal P w K mg base "_law_some_piece" 3 ["pen", "names"] [] (SpG K m_law_some_piece pre_law_some_piece post_law_some_piece) := by
  have c_law_draw := c_law_draw (P := P) (w := w) (base := base) X T
  have c_law_some_word := c_law_some_word (P := P) (w := w) (base := base) X T
  have c_law_pick := c_law_pick (P := P) (w := w) (base := base) X T
  refine cal_WG (N := N_law_some_piece) (u_law_some_piece T) X.d_law_some_piece sc_law_some_piece (fun ds h => ?_) (fun f cdv A outer s H E hr ng => ⟨_, (pss_cons (ps_set (i := 2) sc_law_some_piece.nd rfl (Or.inl rfl) (peg_cal c_law_draw hr (by decide) ng rfl (pa_cons (pv 0) (pa_cons pe_int pa_nil))))
 (pss_cons (ps_if (pt_cmpR (op_eqDk (K := K) (Room.units hr)) (pv 2) pe_int (nomark _)) (pss_one (ps_ret (pe_tup (pa_cons pe_str (pa_cons (peg_cal c_law_pick hr (by decide) ng rfl (pa_cons (pv 0) (pa_cons (pv 1) pa_nil))) (pa_cons (peg_cal c_law_pick hr (by decide) ng rfl (pa_cons (pv 0) (pa_cons (pv 1) pa_nil))) pa_nil)))))) pss_nil)
 (pss_cons (ps_if (pt_cmpR (op_eqDk (K := K) (Room.units hr)) (pv 2) pe_int (nomark _)) (pss_one (ps_ret (pe_tup (pa_cons pe_str (pa_cons (peg_cal c_law_pick hr (by decide) ng rfl (pa_cons (pv 0) (pa_cons (pv 1) pa_nil))) (pa_cons (peg_cal c_law_pick hr (by decide) ng rfl (pa_cons (pv 0) (pa_cons (pv 1) pa_nil))) (pa_cons (pe_op (op_addUk (K := K)) pe_int (pe_op (op_mulUk (K := K)) (peg_cal c_law_draw hr (by decide) ng rfl (pa_cons (pv 0) (pa_cons pe_int pa_nil))) (peg_cal c_law_pick hr (by decide) ng rfl (pa_cons (pv 0) (pa_cons (pe_lst (pa_cons pe_int (pa_cons (pe_op op_pow pe_int pe_int) pa_nil))) pa_nil))))) pa_nil))))))) pss_nil)
 (pss_one (ps_ret (pe_tup (pa_cons pe_str (pa_cons (peg_cal c_law_some_word hr (by decide) ng rfl (pa_cons (pv 0) pa_nil)) pa_nil)))))))), rfl⟩) (Nat.le_of_eq rfl) fun ds hp => ?_
  · match ds, h with
    | [_], _ => rfl
  · match ds, hp with
    | [names_], hp => exact w_at (u_law_some_piece T) (v_law_some_piece T hp) rfl rfl rfl
abbrev m_law_any_saying : Nat := 4625
abbrev pre_law_any_saying : List D → Prop
  | [rows_, names_] => FoOk rows_ ∧ NmOk names_
  | _ => False
abbrev post_law_any_saying : List D → D → Prop
  | [rows_, names_], r => SaOk r
  | _, _ => False
def u_law_any_saying (T : Txt K mg a_QUOTING a_SIDES a_BadName i_BadName a_BadNumber i_BadNumber a_BadSaying i_BadSaying a_Letter i_Letter q_Letter) : WS K L2.E0 := (WS.seq (WS.asg 3 (WM.up (WE.callG m_law_draw pre_law_draw post_law_draw 0 (WA.cons (WE.int 9) WA.nil))))
 (WS.seq (WS.ifS (WT.tst (WE.op O2.eq (WE.var 3) (WE.int 0)))
 (WS.seq (WS.asg 4 (WM.up (WE.cb ON.tuple (WA.cons (WE.lc (WI.rng1 (WA.cons (WE.callG m_law_pick pre_law_pick post_law_pick 0 (WA.cons (WE.lst (WA.cons (WE.int 0) (WA.cons (WE.int 1) (WA.cons (WE.int 2) (WA.cons (WE.int 3) (WA.cons (WE.int 20) WA.nil)))))) WA.nil)) WA.nil)) (WG.name 5) WT.yes (WE.callG m_law_some_piece pre_law_some_piece post_law_some_piece 0 (WA.cons (WE.var 2) WA.nil)) 64) WA.nil))))
 (WS.ret (WM.up (WE.tup (WA.cons (WE.str "post") (WA.cons (WE.callG m_law_pick pre_law_pick post_law_pick 0 (WA.cons (WE.var 2) WA.nil)) (WA.cons (WE.callG m_law_pick pre_law_pick post_law_pick 0 (WA.cons (WE.lst (WA.cons (WE.str "tea") (WA.cons (WE.str "den") (WA.cons (WE.op O2.ix (WE.var 2) (WE.int 0)) WA.nil)))) WA.nil)) (WA.cons (WE.var 4) WA.nil))))))))
 WS.next)
 (WS.seq (WS.ifS (WT.tst (WE.op O2.eq (WE.var 3) (WE.int 1)))
 (WS.ret (WM.up (WE.tup (WA.cons (WE.str "take") (WA.cons (WE.callG m_law_pick pre_law_pick post_law_pick 0 (WA.cons (WE.var 2) WA.nil)) WA.nil)))))
 WS.next)
 (WS.seq (WS.ifS (WT.tst (WE.op O2.eq (WE.var 3) (WE.int 2)))
 (WS.ret (WM.up (WE.tup (WA.cons (WE.str "block") (WA.cons (WE.callG m_law_pick pre_law_pick post_law_pick 0 (WA.cons (WE.var 2) WA.nil)) (WA.cons (WE.op O2.eq (WE.callG m_law_draw pre_law_draw post_law_draw 0 (WA.cons (WE.int 2) WA.nil)) (WE.int 0)) WA.nil))))))
 WS.next)
 (WS.seq (WS.ifS (WT.tst (WE.op O2.eq (WE.var 3) (WE.int 3)))
 (WS.ret (WM.up (WE.tup (WA.cons (WE.str "circle") (WA.cons (WE.callG m_law_pick pre_law_pick post_law_pick 0 (WA.cons (WE.var 2) WA.nil)) (WA.cons (WE.callG m_law_draw pre_law_draw post_law_draw 0 (WA.cons (WE.int 3) WA.nil)) WA.nil))))))
 WS.next)
 (WS.ret (WM.up (WE.callG m_law_some_saying pre_law_some_saying post_law_some_saying 0 (WA.cons (WE.var 1) (WA.cons (WE.var 2) WA.nil))))))))))
theorem v_law_any_saying {rows_ names_ : D} (T : Txt K mg a_QUOTING a_SIDES a_BadName i_BadName a_BadNumber i_BadNumber a_BadSaying i_BadSaying a_Letter i_Letter q_Letter) (hp : FoOk rows_ ∧ NmOk names_) : (u_law_any_saying T).w noX [.pen, .dat rows_, .dat names_, .un, .un, .un] (retW fun r => SaOk r) := by
  unfold u_law_any_saying
  walk_at "w"
  try simp only [pre_law_draw, post_law_draw, pre_law_some_saying, post_law_some_saying, pre_law_pick, post_law_pick, pre_law_some_piece, post_law_some_piece]
  try walk_at "w"
  try simp only [pre_law_draw, post_law_draw, pre_law_some_saying, post_law_some_saying, pre_law_pick, post_law_pick, pre_law_some_piece, post_law_some_piece]
  try walk_at "w"


  obtain ⟨hf, a, b, c, e, rfl, ha, hb, hc, he⟩ := hp
  refine ⟨by decide, ?_⟩
  rintro d ⟨k, rfl, k0, k1⟩
  walk_at "w"
  refine ⟨fun _ => ⟨by decide, ⟨by decide, by decide⟩, fun d hd => ?_⟩, fun _ => ⟨fun _ => ⟨⟨by decide, by decide⟩, fun d hd => ⟨by decide, ?_⟩⟩, fun _ => ⟨fun _ => ⟨⟨by decide, by decide⟩, fun d hd => ⟨by decide, ?_⟩⟩, fun _ => ⟨fun _ => ⟨⟨by decide, by decide⟩, fun d hd => ⟨by decide, ?_⟩⟩, fun _ => ?_⟩⟩⟩⟩
  · obtain ⟨n, rfl, n0, n1⟩ := mem_ints (l := [0, 1, 2, 3, 20]) (lo := 0) (hi := 20) hd (by decide)
    refine ⟨n, rfl, by omega, ?_⟩
    refine LcP.each (fun d => GD 3 8000 d ∧ pieceB d = true ∧ SamD 2 d) (by simp; omega) (fun d hd => ?_) fun es h2 h3 => ?_
    · obtain ⟨j, hj, rfl⟩ := mem_rngD hd
      refine ⟨_, rfl, ?_⟩
      walk_at "w"
      simp only [pre_law_some_piece, post_law_some_piece]
      exact ⟨⟨a, b, c, e, rfl, ha, hb, hc, he⟩, fun d h => h⟩
    · rw [rngD_len] at h2
      refine ⟨es, rfl, ⟨by decide, by decide⟩, fun d hd => ⟨by decide, ⟨by decide, by decide⟩, fun d2 hd2 => ⟨by decide, ?_⟩⟩⟩
      have nm := nm_mem ha hb hc he hd
      have h5 : TxD true 12 d2 := by
        simp only [List.mem_cons, List.not_mem_nil, or_false] at hd2
        rcases hd2 with rfl | rfl | rfl
        · exact TxD.lit
        · exact TxD.lit
        · exact ha
      have hm20 : es.length = n.toNat → n ≤ 20 → es.length * (8000 + 2) ≤ 170000 := fun e1 e2 => by
        have h20 : es.length ≤ 20 := by omega
        exact Nat.le_trans (Nat.mul_le_mul_right _ h20) (by decide)
      have hes : GDs 3 170000 es := (GDs.all fun d hd => (h3 d hd).1).mono (by decide) (hm20 h2 n1)
      have hl20 : es.length ≤ 20 := by omega
      refine ⟨_, rfl, by simp, by simp, (GDs.cons (k := 5) (n := 200) gdS (GDs.cons nm.so.gd (GDs.cons h5.so.gd (GDs.cons (gdT (n' := 170003) hes) (GDs.nil (n := 0)))))).mono (by decide) (by decide), say_post nm h5 (body_of hl20 fun d hd => (h3 d hd).2.1), sam_row (by simp) (h := fun d' hd' => ?_)⟩
      simp only [List.mem_cons, List.not_mem_nil, or_false] at hd'
      rcases hd' with rfl | rfl | rfl
      · exact nm.sam
      · exact h5.sam
      · exact sam_tup (by omega) fun d hd => (h3 d hd).2.2
  · have nm := nm_mem ha hb hc he hd
    refine ⟨_, rfl, by simp, by simp, (GDs.cons (k := 3) (n := 200) gdS (GDs.cons nm.so.gd (GDs.nil (n := 0)))).mono (by decide) (by decide), say_take nm, sam_row (by simp) (h := fun d' hd' => ?_)⟩
    simp only [List.mem_cons, List.not_mem_nil, or_false] at hd'
    subst hd'; exact nm.sam
  · rintro d1 ⟨i, rfl, _, _⟩
    have nm := nm_mem ha hb hc he hd
    refine ⟨rfl, by decide, _, rfl, by simp, by simp, (GDs.cons (k := 3) (n := 200) gdS (GDs.cons nm.so.gd (GDs.cons (GD.bl (n := 10)) (GDs.nil (n := 0))))).mono (by decide) (by decide), say_truth (.inr rfl) nm, sam_row (by simp) (h := fun d' hd' => ?_)⟩
    simp only [List.mem_cons, List.not_mem_nil, or_false] at hd'
    rcases hd' with rfl | rfl
    · exact nm.sam
    · exact sam_bl
  · rintro d1 ⟨i, rfl, i0, i1⟩
    have nm := nm_mem ha hb hc he hd
    refine ⟨by decide, _, rfl, by simp, by simp, (GDs.cons (k := 3) (n := 200) gdS (GDs.cons nm.so.gd (GDs.cons (gdI (n := 2000) (by omega)) (GDs.nil (n := 0))))).mono (by decide) (by decide), say_units (.inr rfl) nm i0 (by omega), sam_row (by simp) (h := fun d' hd' => ?_)⟩
    simp only [List.mem_cons, List.not_mem_nil, or_false] at hd'
    rcases hd' with rfl | rfl
    · exact nm.sam
    · exact sam_int
  · exact ⟨⟨hf, a, b, c, e, rfl, ha, hb, hc, he⟩, fun d h => h⟩
theorem c_law_any_saying (X : Defs K mg a_QUOTING a_SIDES a_BadName i_BadName a_BadNumber i_BadNumber a_BadSaying i_BadSaying a_Letter i_Letter q_Letter) (T : Txt K mg a_QUOTING a_SIDES a_BadName i_BadName a_BadNumber i_BadNumber a_BadSaying i_BadSaying a_Letter i_Letter q_Letter) : Cal P w K mg base "_law_any_saying" 4 ["pen", "rows", "names"] [] (SpG K m_law_any_saying pre_law_any_saying post_law_any_saying) := by
  have c_law_draw := c_law_draw (P := P) (w := w) (base := base) X T
  have c_law_some_saying := c_law_some_saying (P := P) (w := w) (base := base) X T
  have c_law_pick := c_law_pick (P := P) (w := w) (base := base) X T
  have c_law_some_piece := c_law_some_piece (P := P) (w := w) (base := base) X T
  refine cal_WG (N := N_law_any_saying) (u_law_any_saying T) X.d_law_any_saying sc_law_any_saying (fun ds h => ?_) (fun f cdv A outer s H E hr ng => ⟨_, (pss_cons (ps_set (i := 3) sc_law_any_saying.nd rfl (Or.inl rfl) (peg_cal c_law_draw hr (by decide) ng rfl (pa_cons (pv 0) (pa_cons pe_int pa_nil))))
 (pss_cons (ps_if (pt_cmpR (op_eqDk (K := K) (Room.units hr)) (pv 3) pe_int (nomark _)) (pss_cons (ps_set (i := 4) sc_law_any_saying.nd rfl (Or.inl rfl) (pe_callTy (call_tuple_ofk (K := K)) (by rfl) T.b_tuple (by decide +kernel) (pa_cons (pe_lc (own := [("spot", 5)]) (g := (gName 5)) (tt := tYes) (by rfl) sc_law_any_saying.nd (pi_range1 rfl T.b_range (pa_cons (peg_cal c_law_pick hr (by decide) ng rfl (pa_cons (pv 0) (pa_cons (pe_lst (pa_cons pe_int (pa_cons pe_int (pa_cons pe_int (pa_cons pe_int (pa_cons pe_int pa_nil)))))) pa_nil))) pa_nil)) (blkOk_by (own := [("spot", 5)]) (N := N_law_any_saying) (sc := defScope s_law_any_saying) (by decide +kernel)) (fun _ _ _ _ _ => (pg_name (i := 5) sc_law_any_saying.nd rfl (Or.inl rfl))) (fun _ _ _ _ _ => pts_nil) (fun _ _ _ _ _ => (peg_cal c_law_some_piece hr (by decide) ng rfl (pa_cons (pv 0) (pa_cons (pv 2) pa_nil))))) pa_nil)))
 (pss_one (ps_ret (pe_tup (pa_cons pe_str (pa_cons (peg_cal c_law_pick hr (by decide) ng rfl (pa_cons (pv 0) (pa_cons (pv 2) pa_nil))) (pa_cons (peg_cal c_law_pick hr (by decide) ng rfl (pa_cons (pv 0) (pa_cons (pe_lst (pa_cons pe_str (pa_cons pe_str (pa_cons (pe_ix (ix_seqk (K := K)) (pv 2) pe_int (fun _ _ => rfl)) pa_nil)))) pa_nil))) (pa_cons (pv 4) pa_nil)))))))) pss_nil)
 (pss_cons (ps_if (pt_cmpR (op_eqDk (K := K) (Room.units hr)) (pv 3) pe_int (nomark _)) (pss_one (ps_ret (pe_tup (pa_cons pe_str (pa_cons (peg_cal c_law_pick hr (by decide) ng rfl (pa_cons (pv 0) (pa_cons (pv 2) pa_nil))) pa_nil))))) pss_nil)
 (pss_cons (ps_if (pt_cmpR (op_eqDk (K := K) (Room.units hr)) (pv 3) pe_int (nomark _)) (pss_one (ps_ret (pe_tup (pa_cons pe_str (pa_cons (peg_cal c_law_pick hr (by decide) ng rfl (pa_cons (pv 0) (pa_cons (pv 2) pa_nil))) (pa_cons (pe_cmpR (op_eqDk (K := K) (Room.units hr)) (peg_cal c_law_draw hr (by decide) ng rfl (pa_cons (pv 0) (pa_cons pe_int pa_nil))) pe_int (nomark _)) pa_nil)))))) pss_nil)
 (pss_cons (ps_if (pt_cmpR (op_eqDk (K := K) (Room.units hr)) (pv 3) pe_int (nomark _)) (pss_one (ps_ret (pe_tup (pa_cons pe_str (pa_cons (peg_cal c_law_pick hr (by decide) ng rfl (pa_cons (pv 0) (pa_cons (pv 2) pa_nil))) (pa_cons (peg_cal c_law_draw hr (by decide) ng rfl (pa_cons (pv 0) (pa_cons pe_int pa_nil))) pa_nil)))))) pss_nil)
 (pss_one (ps_ret (peg_cal c_law_some_saying hr (by decide) ng rfl (pa_cons (pv 0) (pa_cons (pv 1) (pa_cons (pv 2) pa_nil))))))))))), rfl⟩) (Nat.le_of_eq rfl) fun ds hp => ?_
  · match ds, h with
    | [_, _], _ => rfl
  · match ds, hp with
    | [rows_, names_], hp => exact w_at (u_law_any_saying T) (v_law_any_saying T hp) rfl rfl rfl
theorem od0 : GD 3 5000 (.tup []) := gdT (k := 0) (GDs.nil (n := 0))
theorem od1 : GD 3 5000 (.tup [.str "a"]) := gdT (GDs.cons (k := 2) (n := 100) (gdS (z := "a")) (GDs.nil (n := 0)))
theorem odw : GD 2 300 (.tup [.str "word", .str "x1"]) := (gdT (k := 1) (n := 204) (GDs.cons (n := 100) (gdS (z := "word")) (GDs.cons (n := 100) (gdS (z := "x1")) (GDs.nil (n := 0)))))
theorem od2 : GD 3 5000 (.tup [.tup [.str "word", .str "x1"]]) := gdT (GDs.cons odw (GDs.nil (n := 0)))
theorem od3 : GD 3 5000 (.lst [.tup [.str "word", .str "x1"]]) := gdL (GDs.cons odw (GDs.nil (n := 0)))
abbrev m_law_odd : Nat := 1
abbrev pre_law_odd : List D → Prop
  | [] => True
  | _ => False
abbrev post_law_odd : List D → D → Prop
  | [], r => GD 3 5000 r
  | _, _ => False
def u_law_odd (T : Txt K mg a_QUOTING a_SIDES a_BadName i_BadName a_BadNumber i_BadNumber a_BadSaying i_BadSaying a_Letter i_Letter q_Letter) : WS K L2.E0 := (WS.seq (WS.asg 1 (WM.up (WE.lst (WA.cons WE.non (WA.cons (WE.bl true) (WA.cons (WE.bl false) (WA.cons (WE.int 0) (WA.cons (WE.int 1) (WA.cons (WE.neg (WE.int 1)) (WA.cons (WE.int 24) (WA.cons (WE.int 25) (WA.cons (WE.str "") (WA.cons (WE.str "a") (WA.cons (WE.str "A") (WA.cons (WE.str "see") (WA.cons (WE.str "a.b") (WA.cons (WE.str "a.b.c") (WA.cons (WE.str ".a") (WA.cons (WE.str "a.") (WA.cons (WE.str "none") (WA.cons (WE.str "ab\n") (WA.cons (WE.op O2.mul (WE.str "a") (WE.int 12)) (WA.cons (WE.op O2.mul (WE.str "a") (WE.int 13)) WA.nil)))))))))))))))))))))))
 (WS.seq (WS.asg 1 (WM.up (WE.op O2.add (WE.var 1) (WE.lst (WA.cons (WE.str "1a") (WA.cons (WE.str "a b") (WA.cons (WE.str "a_b") (WA.cons (WE.tup WA.nil) (WA.cons (WE.tup (WA.cons (WE.str "a") WA.nil)) (WA.cons (WE.tup (WA.cons (WE.tup (WA.cons (WE.str "word") (WA.cons (WE.str "x1") WA.nil))) WA.nil)) (WA.cons (WE.lst (WA.cons (WE.tup (WA.cons (WE.str "word") (WA.cons (WE.str "x1") WA.nil))) WA.nil)) (WA.cons (WE.op (O2.intC CPow fun i j => i ^ j.toNat) (WE.int 10) (WE.int 30)) (WA.cons (WE.str "for") (WA.cons (WE.str "take") (WA.cons (WE.str "post") WA.nil)))))))))))))))
 (WS.ret (WM.up (WE.callG m_law_pick pre_law_pick post_law_pick 0 (WA.cons (WE.var 1) WA.nil))))))
theorem v_law_odd (T : Txt K mg a_QUOTING a_SIDES a_BadName i_BadName a_BadNumber i_BadNumber a_BadSaying i_BadSaying a_Letter i_Letter q_Letter) (hp : True) : (u_law_odd T).w noX [.pen, .un] (retW fun r => GD 3 5000 r) := by
  unfold u_law_odd


  simp only [DL.w_seq, DL.w_asg, DL.w_up, DL.w_lst, DL.w_op, DL.w_ret, DL.w_callG]
  refine (wl_cons (fun _ h => h) (wl_cons (fun _ h => h) (wl_cons (fun _ h => h) (wl_cons (fun _ h => h) (wl_cons (fun _ h => h) (wl_cons (by exact fun _ h => ⟨1, rfl, h⟩) (wl_cons (fun _ h => h) (wl_cons (fun _ h => h) (wl_cons (fun _ h => h) (wl_cons (fun _ h => h) (wl_cons (fun _ h => h) (wl_cons (fun _ h => h) (wl_cons (fun _ h => h) (wl_cons (fun _ h => h) (wl_cons (fun _ h => h) (wl_cons (fun _ h => h) (wl_cons (fun _ h => h) (wl_cons (fun _ h => h) (wl_cons (by exact fun _ h => ⟨⟨by decide, by decide, by decide⟩, h⟩) (wl_cons (by exact fun _ h => ⟨⟨by decide, by decide, by decide⟩, h⟩) wl_nil)))))))))))))))))))) _ ⟨by decide, ?_⟩
  simp only [DL.w_var, List.set_cons_succ, List.set_cons_zero, datAt_s, datAt_0]
  refine (wl_cons (fun _ h => h) (wl_cons (fun _ h => h) (wl_cons (fun _ h => h) (wl_cons (by exact fun _ h => ⟨by decide, h⟩) (wl_cons (by exact fun _ h => ⟨(show 1 ≤ 1000 by decide), h⟩) (wl_cons (by exact fun _ h => ⟨(show 2 ≤ 1000 by decide), (show 1 ≤ 1000 by decide), h⟩) (wl_cons (by exact fun _ h => ⟨(show 2 ≤ 1000 by decide), (show 1 ≤ 1000 by decide), h⟩) (wl_cons (by exact fun _ h => ⟨⟨by decide, by decide, by decide⟩, h⟩) (wl_cons (fun _ h => h) (wl_cons (fun _ h => h) (wl_cons (fun _ h => h) wl_nil))))))))))) _ ⟨by decide, by decide, ?_⟩
  simp only [DL.w_var, DL.w_cons, DL.w_nil, List.set_cons_succ, List.set_cons_zero, datAt_s, datAt_0, penIs_0, true_and]
  refine ⟨⟨_, rfl, by decide, by decide⟩, ?_⟩
  intro r hx
  obtain ⟨ds, e, hr⟩ := hx
  cases e
  show GD 3 5000 r
  revert r
  refine List.forall_mem_append.mpr ⟨?_, ?_⟩
  · exact (List.forall_mem_cons.mpr ⟨GD.non, (List.forall_mem_cons.mpr ⟨GD.bl, (List.forall_mem_cons.mpr ⟨GD.bl, (List.forall_mem_cons.mpr ⟨(gdI (by decide)), (List.forall_mem_cons.mpr ⟨(gdI (by decide)), (List.forall_mem_cons.mpr ⟨(gdI (by decide)), (List.forall_mem_cons.mpr ⟨(gdI (by decide)), (List.forall_mem_cons.mpr ⟨(gdI (by decide)), (List.forall_mem_cons.mpr ⟨gdS, (List.forall_mem_cons.mpr ⟨gdS, (List.forall_mem_cons.mpr ⟨gdS, (List.forall_mem_cons.mpr ⟨gdS, (List.forall_mem_cons.mpr ⟨gdS, (List.forall_mem_cons.mpr ⟨gdS, (List.forall_mem_cons.mpr ⟨gdS, (List.forall_mem_cons.mpr ⟨gdS, (List.forall_mem_cons.mpr ⟨gdS, (List.forall_mem_cons.mpr ⟨gdS, (List.forall_mem_cons.mpr ⟨gdS, (List.forall_mem_cons.mpr ⟨gdS, (fun _ h => nomatch h)⟩)⟩)⟩)⟩)⟩)⟩)⟩)⟩)⟩)⟩)⟩)⟩)⟩)⟩)⟩)⟩)⟩)⟩)⟩)⟩)
  · exact (List.forall_mem_cons.mpr ⟨gdS, (List.forall_mem_cons.mpr ⟨gdS, (List.forall_mem_cons.mpr ⟨gdS, (List.forall_mem_cons.mpr ⟨od0, (List.forall_mem_cons.mpr ⟨od1, (List.forall_mem_cons.mpr ⟨od2, (List.forall_mem_cons.mpr ⟨od3, (List.forall_mem_cons.mpr ⟨(gdI (by decide +kernel)), (List.forall_mem_cons.mpr ⟨gdS, (List.forall_mem_cons.mpr ⟨gdS, (List.forall_mem_cons.mpr ⟨gdS, (fun _ h => nomatch h)⟩)⟩)⟩)⟩)⟩)⟩)⟩)⟩)⟩)⟩)⟩)
theorem c_law_odd (X : Defs K mg a_QUOTING a_SIDES a_BadName i_BadName a_BadNumber i_BadNumber a_BadSaying i_BadSaying a_Letter i_Letter q_Letter) (T : Txt K mg a_QUOTING a_SIDES a_BadName i_BadName a_BadNumber i_BadNumber a_BadSaying i_BadSaying a_Letter i_Letter q_Letter) : Cal P w K mg base "_law_odd" 3 ["pen"] [] (SpG K m_law_odd pre_law_odd post_law_odd) := by
  have c_law_pick := c_law_pick (P := P) (w := w) (base := base) X T
  refine cal_WG (N := N_law_odd) (u_law_odd T) X.d_law_odd sc_law_odd (fun ds h => ?_) (fun f cdv A outer s H E hr ng => ⟨_, (pss_cons (ps_set (i := 1) sc_law_odd.nd rfl (Or.inl rfl) (pe_lst (pa_cons pe_non (pa_cons pe_bl (pa_cons pe_bl (pa_cons pe_int (pa_cons pe_int (pa_cons (pe_un un_neg pe_int) (pa_cons pe_int (pa_cons pe_int (pa_cons pe_str (pa_cons pe_str (pa_cons pe_str (pa_cons pe_str (pa_cons pe_str (pa_cons pe_str (pa_cons pe_str (pa_cons pe_str (pa_cons pe_str (pa_cons pe_str (pa_cons (pe_op (op_mulUk (K := K)) pe_str pe_int) (pa_cons (pe_op (op_mulUk (K := K)) pe_str pe_int) pa_nil))))))))))))))))))))))
 (pss_cons (ps_set (i := 1) sc_law_odd.nd rfl (Or.inl rfl) (pe_op (op_addUk (K := K)) (pv 1) (pe_lst (pa_cons pe_str (pa_cons pe_str (pa_cons pe_str (pa_cons (pe_tup pa_nil) (pa_cons (pe_tup (pa_cons pe_str pa_nil)) (pa_cons (pe_tup (pa_cons (pe_tup (pa_cons pe_str (pa_cons pe_str pa_nil))) pa_nil)) (pa_cons (pe_lst (pa_cons (pe_tup (pa_cons pe_str (pa_cons pe_str pa_nil))) pa_nil)) (pa_cons (pe_op op_pow pe_int pe_int) (pa_cons pe_str (pa_cons pe_str (pa_cons pe_str pa_nil))))))))))))))
 (pss_one (ps_ret (peg_cal c_law_pick hr (by decide) ng rfl (pa_cons (pv 0) (pa_cons (pv 1) pa_nil))))))), rfl⟩) (Nat.le_of_eq rfl) fun ds hp => ?_
  · match ds, h with
    | [], _ => rfl
  · match ds, hp with
    | [], hp => exact w_at (u_law_odd T) (v_law_odd T hp) rfl rfl rfl
end
end K23
set_option maxRecDepth 100000
set_option maxHeartbeats 8000000
namespace K23
open PySem L2 PyProof.Rows DL
section
variable {P : Program} {w : World} {K : PySem.W.Frag} {mg : Str → Option Value} {base : Heap} {a_QUOTING a_SIDES a_BadName i_BadName a_BadNumber i_BadNumber a_BadSaying i_BadSaying a_Letter i_Letter q_Letter : Addr}
local macro_rules | `(tactic| walk_at "w") => `(tactic| simp only [DL.w_var, DL.w_int, DL.w_bl, DL.w_str, DL.w_non, DL.w_ktup, DL.w_op, DL.w_neg, DL.w_chain, DL.w_nil, DL.w_cons, DL.w_tup, DL.w_lst, DL.w_tst, DL.w_tb, DL.w_not, DL.w_yes, DL.w_and, DL.w_or, DL.w_andV, DL.w_orV, DL.w_notV, DL.w_ite, DL.w_none, DL.w_some, DL.w_sl, DL.w_cb, DL.w_isi, DL.w_isi2, DL.w_call, DL.w_callD, DL.w_callX, DL.w_callG, DL.w_split, DL.w_dget, DL.w_knil, DL.w_kcons, DL.w_dispK, DL.w_seqI, DL.w_rng1, DL.w_rng2, DL.w_enum, DL.w_zip, DL.w_lc, DL.w_borrow, DL.w_up, DL.w_popAt, DL.w_next, DL.w_brk, DL.w_cont, DL.w_seq, DL.w_ret, DL.w_retN, DL.w_asg, DL.w_asgT, DL.w_asgOwn, DL.w_drop, DL.w_ifS, DL.w_append, DL.w_raiseO, DL.w_xf, DL.w_tryAsg, DL.w_mkX, DL.w_fldR, DL.w_fld, DL.w_isC, DL.q_eqO, DL.q_neO, DL.w_tryMk, DL.slfAt_0, DL.slfAt_s, DL.w_asgLend, DL.lendAt_o, DL.lendAt_d, DL.lendAt_s, DL.w_frz, frzAt_0, frzAt_d, frzAt_u, frzAt_s, DL.w_forS, DL.w_par, DL.w_parLE,
  DL.q_int, DL.q_cmp, DL.q_intC, DL.q_addI, DL.q_addS, DL.q_addT, DL.q_addL, DL.q_mulI, DL.q_mulS, DL.q_mulL, DL.q_eq, DL.q_ne, DL.q_isN, DL.q_isB, DL.q_notN, DL.q_inT, DL.q_inL, DL.q_inS, DL.q_ninT, DL.q_ninL, DL.q_ninS, DL.q_ixL, DL.q_ixT, DL.q_ixS, DL.n_len, DL.n_list, DL.n_tuple, DL.n_all, DL.n_any, DL.n_sum, DL.n_sortedS, DL.n_min2, DL.n_max2, DL.n_int1, DL.n_strI, DL.n_repr, DL.g_name, DL.is_name, cut_tup, cut_lst,  isi_str, isi_int, isi_bool, isi_tuple, isi_list,
  datAt_0, datAt_s, ownAt_0, ownAt_s, penIs_0, penIs_s, setD_nil, setD_cons, wipeG, List.set_cons_zero, List.set_cons_succ, List.set_nil, List.map_cons, List.map_nil, List.cons_append, List.nil_append,
  D.bl.injEq, D.int.injEq, D.str.injEq, exists_eq_left', exists_eq_left, exists_and_left, exists_eq', exists_eq, true_and, and_true, true_imp_iff, false_imp_iff, Bool.true_eq_false, Bool.false_eq_true, forall_const, Bool.not_true, Bool.not_false, List.length_cons, List.length_nil, eqv_str, eqv_int, ok_int, ok_bl, ok_non, forall_eq, atI_0, atI_1, atI_2, atI_3, List.getElem?_cons_zero, List.getElem?_cons_succ, List.getElem?_nil, Option.some.injEq, Sk.own.injEq, len_tup, len_lst, its_tup, its_lst, itemsOf_tup, itemsOf_lst, itemsOf_str, isS_str, isT_tup, isL_lst, isI_int, isB_bl, builtin_str, builtin_tup, builtin_lst, builtin_int, builtin_bl, builtin_non, D.sign_one, List.all_cons, List.all_nil, Bool.and_true])

theorem cal_no {x : Str} {k : Nat} {ps : List Str} {dvs : List V} {st : Stmt} {pre : List D → Prop} {post : List D → D → Prop} (Df : Def K mg x st ps dvs) (h : ∀ ds, ¬ pre ds) : Cal P w K mg base x k ps dvs (SpP K pre post) := by
  obtain ⟨f, fd, ds, F, hm, b, v⟩ := Df.ex
  exact ⟨f, fd, ds, ⟨fun vs H Q E z => by obtain ⟨_, d, _, _, y, _⟩ := z; exact (h d y).elim, fun A r g outer s H args us vs Q E e0 bb rv z => by obtain ⟨_, d, _, _, y, _⟩ := z; exact (h d y).elim⟩, hm, F.kp, b, v⟩
theorem mem_zip_self {ds : List D} {d : D} (h : d ∈ zipD ds ds) : ∃ a, a ∈ ds ∧ d = .tup [a, a] := by
  induction ds with
  | nil => cases h
  | cons x l ih =>
    have h' : d ∈ D.tup [x, x] :: zipD l l := h
    rcases List.mem_cons.mp h' with rfl | z
    · exact ⟨x, List.mem_cons_self, rfl⟩
    · obtain ⟨a, h1, h2⟩ := ih z
      exact ⟨a, List.mem_cons_of_mem _ h1, h2⟩
theorem zip_self_len {ds : List D} : (zipD ds ds).length = ds.length := by
  induction ds with
  | nil => rfl
  | cons x l ih => exact congrArg Nat.succ ih
theorem all_true {es : List D} (h : ∀ e ∈ es, e = D.bl true) : es.all D.isB = true ∧ es.all D.tt = true := by
  simp only [List.all_eq_true]
  exact ⟨fun e he => by rw [h e he]; rfl, fun e he => by rw [h e he]; rfl⟩
theorem eqv_bl {a b : Bool} : (D.bl a).eqv (.bl b) = decide (a = b) := by
  show PyData.eqv (.bool a) (.bool b) = _
  unfold PyData.eqv
  cases a <;> cases b <;> rfl
theorem gd_len {n m : Nat} {ds : List D} (h : GDs n m ds) : 2 * ds.length ≤ m := Nat.le_trans (ws_len ds) h.w
abbrev pre_law_same : Nat → List D → Prop
  | n + 1, [told_, due_] => told_ = due_ ∧ SamD n due_
  | _, _ => False
abbrev post_law_same : List D → D → Prop
  | [told_, due_], r => r = .bl true
  | _, _ => False
def u_law_same (n : Nat) (T : Txt K mg a_QUOTING a_SIDES a_BadName i_BadName a_BadNumber i_BadNumber a_BadSaying i_BadSaying a_Letter i_Letter q_Letter) : WS K L2.E0 := (WS.seq (WS.ifS (WT.b (WE.isi "tuple" (WE.var 1)))
 (WS.ret (WM.up (WE.andV (WE.isi "tuple" (WE.var 0)) (WE.andV (WE.op O2.eq (WE.cb ON.len (WA.cons (WE.var 0) WA.nil)) (WE.cb ON.len (WA.cons (WE.var 1) WA.nil))) (WE.cb ON.all (WA.cons (WE.lc (WI.zip (WA.cons (WE.var 0) (WA.cons (WE.var 1) WA.nil))) (WG.tup (WGs.cons (WG.name 2) (WGs.cons (WG.name 3) WGs.nil))) WT.yes (WE.call (pre_law_same n) post_law_same (WA.cons (WE.var 2) (WA.cons (WE.var 3) WA.nil))) 999999) WA.nil))))))
 WS.next)
 (WS.seq (WS.ifS (WT.tst (WE.op O2.isU (WE.var 1) WE.non))
 (WS.ret (WM.up (WE.op O2.isU (WE.var 0) WE.non)))
 WS.next)
 (WS.seq (WS.ifS (WT.tst (WE.op O2.isU (WE.var 1) (WE.bl true)))
 (WS.ret (WM.up (WE.op O2.isU (WE.var 0) (WE.bl true))))
 WS.next)
 (WS.seq (WS.ifS (WT.tst (WE.op O2.isU (WE.var 1) (WE.bl false)))
 (WS.ret (WM.up (WE.op O2.isU (WE.var 0) (WE.bl false))))
 WS.next)
 (WS.seq (WS.ifS (WT.b (WE.isi "int" (WE.var 1)))
 (WS.ret (WM.up (WE.andV (WE.isi "int" (WE.var 0)) (WE.andV (WE.notV (WE.isi "bool" (WE.var 0))) (WE.op O2.eq (WE.var 0) (WE.var 1))))))
 WS.next)
 (WS.ret (WM.up (WE.andV (WE.isi "str" (WE.var 0)) (WE.op O2.eq (WE.var 0) (WE.var 1))))))))))
theorem v_law_same {told_ due_ : D} (n : Nat) (T : Txt K mg a_QUOTING a_SIDES a_BadName i_BadName a_BadNumber i_BadNumber a_BadSaying i_BadSaying a_Letter i_Letter q_Letter) (hp : told_ = due_ ∧ SamD n due_) : (u_law_same n T).w noX [.dat told_, .dat due_, .un, .un] (retW fun r => r = .bl true) := by
  unfold u_law_same

  obtain ⟨rfl, h⟩ := hp
  walk_at "w"
  cases told_ with
  | tup ds =>
    cases n with
    | zero => simp [SamD] at h
    | succ n =>
      have h' : ds.length ≤ 1000 ∧ ∀ d ∈ ds, SamD n d := by simpa [SamD] using h
      refine ⟨rfl, fun _ => ⟨rfl, fun _ => ⟨_, rfl, _, rfl, fun _ => ⟨ds, ds, .inr rfl, ?_⟩, fun e => by simp at e⟩, fun e => by cases e⟩, fun e => by cases e⟩
      refine LcP.each (fun d => d = .bl true) (by rw [zip_self_len]; omega) (fun d hd => ?_) fun es h2 h3 => ?_
      · obtain ⟨a, ha, rfl⟩ := mem_zip_self hd
        refine ⟨[(2, a), (3, a)], rfl, ?_⟩
        walk_at "w"
        exact ⟨rfl, h'.2 a ha⟩
      · exact ⟨(all_true h3).1, by rw [(all_true h3).2]⟩
  | non => simp
  | bl b => cases b <;> simp
  | int i => simp [eqv_int, ok_int]
  | str z =>
    have hz : PyData.strOk z = true := by cases n <;> simpa [SamD] using h
    have ho : (D.str z).ok = true := (GD.str (k := 0) (n := 10 * z.length + 2) hz (Nat.le_refl _)).ok
    simp [ho, eqv_str]
  | _ => cases n <;> simp [SamD] at h
theorem c_law_same (X : Defs K mg a_QUOTING a_SIDES a_BadName i_BadName a_BadNumber i_BadNumber a_BadSaying i_BadSaying a_Letter i_Letter q_Letter) (T : Txt K mg a_QUOTING a_SIDES a_BadName i_BadName a_BadNumber i_BadNumber a_BadSaying i_BadSaying a_Letter i_Letter q_Letter) : ∀ n, Cal P w K mg base "_law_same" (1 + n) ["told", "due"] [] (SpP K (pre_law_same n) post_law_same)
  | 0 => cal_no X.d_law_same fun ds h => h
  | n + 1 => by
    have c_law_same := c_law_same X T n
    refine cal_W (N := N_law_same) (u_law_same n T) X.d_law_same sc_law_same (fun ds h => ?_) (fun f cdv A outer s H E hr ng => ⟨_, (pss_cons (ps_if (pt_val (pe_callB (call_isik (K := K)) (by rfl) T.b_isinstance (by decide +kernel) (pa_cons (pv 1) (pa_cons (pe_bltn (v := .ty "tuple") (by rfl) T.b_tuple (by decide +kernel) rfl) pa_nil)))) (pss_one (ps_ret (pe_and (pe_callB (call_isik (K := K)) (by rfl) T.b_isinstance (by decide +kernel) (pa_cons (pv 0) (pa_cons (pe_bltn (v := .ty "tuple") (by rfl) T.b_tuple (by decide +kernel) rfl) pa_nil))) (pe_and (pe_cmpR (op_eqDk (K := K) (Room.units hr)) (pe_callB (call_lenk (K := K)) (by rfl) T.b_len (by decide +kernel) (pa_cons (pv 0) pa_nil)) (pe_callB (call_lenk (K := K)) (by rfl) T.b_len (by decide +kernel) (pa_cons (pv 1) pa_nil)) (nomark _)) (pe_one (pe_callB (cr_allk (K := K) rfl) (by rfl) T.b_all (by decide +kernel) (pa_cons (pe_lc (own := [("one", 2), ("two", 3)]) (g := (gTup K 2 (gCons (gName 2) (gCons (gName 3) gNil)))) (tt := tYes) (by rfl) sc_law_same.nd (RZ.pi_zipA (by rfl) T.b_zip (pa_cons (pv 0) (pa_cons (pv 1) pa_nil))) (blkOk_by (own := [("one", 2), ("two", 3)]) (N := N_law_same) (sc := defScope s_law_same) (by decide +kernel)) (fun _ _ _ _ _ => (pg_tupk (K := K) rfl (pgs_cons (pg_name (i := 2) sc_law_same.nd rfl (Or.inl rfl)) (pgs_cons (pg_name (i := 3) sc_law_same.nd rfl (Or.inl rfl)) pgs_nil)))) (fun _ _ _ _ _ => pts_nil) (fun _ _ _ _ _ => (peg_cal c_law_same hr (Nat.le_refl _) ng rfl (pa_cons (pv 2) (pa_cons (pv 3) pa_nil))))) pa_nil))))))) pss_nil)
 (pss_cons (ps_if (pt_cmpR op_isU (pv 1) pe_non (nomark _)) (pss_one (ps_ret (pe_cmpR op_isU (pv 0) pe_non (nomark _)))) pss_nil)
 (pss_cons (ps_if (pt_cmpR op_isU (pv 1) pe_bl (nomark _)) (pss_one (ps_ret (pe_cmpR op_isU (pv 0) pe_bl (nomark _)))) pss_nil)
 (pss_cons (ps_if (pt_cmpR op_isU (pv 1) pe_bl (nomark _)) (pss_one (ps_ret (pe_cmpR op_isU (pv 0) pe_bl (nomark _)))) pss_nil)
 (pss_cons (ps_if (pt_val (pe_callB (call_isik (K := K)) (by rfl) T.b_isinstance (by decide +kernel) (pa_cons (pv 1) (pa_cons (pe_bltn (v := .ty "int") (by rfl) T.b_int (by decide +kernel) rfl) pa_nil)))) (pss_one (ps_ret (pe_and (pe_callB (call_isik (K := K)) (by rfl) T.b_isinstance (by decide +kernel) (pa_cons (pv 0) (pa_cons (pe_bltn (v := .ty "int") (by rfl) T.b_int (by decide +kernel) rfl) pa_nil))) (pe_and (pe_not (pe_callB (call_isik (K := K)) (by rfl) T.b_isinstance (by decide +kernel) (pa_cons (pv 0) (pa_cons (pe_bltn (v := .ty "bool") (by rfl) T.b_bool (by decide +kernel) rfl) pa_nil)))) (pe_one (pe_cmpR (op_eqDk (K := K) (Room.units hr)) (pv 0) (pv 1) (nomark _))))))) pss_nil)
 (pss_one (ps_ret (pe_and (pe_callB (call_isik (K := K)) (by rfl) T.b_isinstance (by decide +kernel) (pa_cons (pv 0) (pa_cons (pe_bltn (v := .ty "str") (by rfl) T.b_str (by decide +kernel) rfl) pa_nil))) (pe_one (pe_cmpR (op_eqDk (K := K) (Room.units hr)) (pv 0) (pv 1) (nomark _))))))))))), rfl⟩) rfl fun ds hp => ?_
    · match ds, h with
      | [_, _], _ => rfl
    · match ds, hp with
      | [told_, due_], hp => exact w_at (u_law_same n T) (v_law_same n T hp) rfl rfl rfl
theorem sam_flat {n m : Nat} {d : D} (g : GD n m d) (hl : d.isL = false) (ht : d.isT = false) : SamD 4 d := by
  cases d with
  | non => simp [SamD]
  | bl b => simp [SamD]
  | int i => simp [SamD]
  | str z => exact sam_str g.strOk
  | lst _ => cases hl
  | tup _ => cases ht
  | _ => have := g.pl; cases this
abbrev pre_law_alike : Nat → List D → Prop
  | n + 1, [told_, due_] => told_ = due_ ∧ GD n 1900000 due_
  | _, _ => False
abbrev post_law_alike : List D → D → Prop
  | [told_, due_], r => r = .bl true
  | _, _ => False
def u_law_alike (n : Nat) (T : Txt K mg a_QUOTING a_SIDES a_BadName i_BadName a_BadNumber i_BadNumber a_BadSaying i_BadSaying a_Letter i_Letter q_Letter) : WS K L2.E0 := (WS.seq (WS.ifS (WT.b (WE.isi2 "list" "tuple" (WE.var 1)))
 (WS.seq (WS.ifS (WT.or (WT.tst (WE.op O2.ne (WE.isi "list" (WE.var 0)) (WE.isi "list" (WE.var 1)))) (WT.or (WT.not (WT.b (WE.isi2 "list" "tuple" (WE.var 0)))) (WT.tst (WE.op O2.ne (WE.cb ON.len (WA.cons (WE.var 0) WA.nil)) (WE.cb ON.len (WA.cons (WE.var 1) WA.nil))))))
 (WS.ret (WM.up (WE.bl false)))
 WS.next)
 (WS.ret (WM.up (WE.cb ON.all (WA.cons (WE.lc (WI.zip (WA.cons (WE.var 0) (WA.cons (WE.var 1) WA.nil))) (WG.tup (WGs.cons (WG.name 2) (WGs.cons (WG.name 3) WGs.nil))) WT.yes (WE.call (pre_law_alike n) post_law_alike (WA.cons (WE.var 2) (WA.cons (WE.var 3) WA.nil))) 999999) WA.nil)))))
 WS.next)
 (WS.ret (WM.up (WE.call (pre_law_same 5) post_law_same (WA.cons (WE.var 0) (WA.cons (WE.var 1) WA.nil))))))
theorem v_law_alike {told_ due_ : D} (n : Nat) (T : Txt K mg a_QUOTING a_SIDES a_BadName i_BadName a_BadNumber i_BadNumber a_BadSaying i_BadSaying a_Letter i_Letter q_Letter) (hp : told_ = due_ ∧ GD n 1900000 due_) : (u_law_alike n T).w noX [.dat told_, .dat due_, .un, .un] (retW fun r => r = .bl true) := by
  unfold u_law_alike

  obtain ⟨rfl, g⟩ := hp
  walk_at "w"
  simp only [pre_law_same, post_law_same]
  try walk_at "w"
  have hb : told_.builtin = true := by
    cases told_ <;> first | rfl | (have := g.pl; cases this)
  refine ⟨hb, fun ht => ⟨hb, hb, fun _ => ⟨hb, fun _ => ?_, fun e => by rw [ht] at e; cases e⟩, fun e => by rw [eqv_bl] at e; simp at e⟩, fun hf => sam_flat g (Bool.or_eq_false_iff.mp hf).1 (Bool.or_eq_false_iff.mp hf).2⟩
  cases told_ with
  | tup ds =>
    refine ⟨_, rfl, _, rfl, fun e => by simp at e, fun _ => ⟨ds, ds, .inr rfl, ?_⟩⟩
    have hl := gd_len g.tups
    refine LcP.each (fun d => d = .bl true) (by rw [zip_self_len]; omega) (fun d hd => ?_) fun es h2 h3 => ?_
    · obtain ⟨a, ha, rfl⟩ := mem_zip_self hd
      refine ⟨[(2, a), (3, a)], rfl, ?_⟩
      walk_at "w"
      cases n with
      | zero => exact absurd g.dep (by show ¬ _ + 1 ≤ 0; omega)
      | succ n => exact ⟨rfl, g.tups.mem a ha⟩
    · exact ⟨(all_true h3).1, by rw [(all_true h3).2]⟩
  | lst ds =>
    refine ⟨_, rfl, _, rfl, fun e => by simp at e, fun _ => ⟨ds, ds, .inl rfl, ?_⟩⟩
    have hl := gd_len g.lsts
    refine LcP.each (fun d => d = .bl true) (by rw [zip_self_len]; omega) (fun d hd => ?_) fun es h2 h3 => ?_
    · obtain ⟨a, ha, rfl⟩ := mem_zip_self hd
      refine ⟨[(2, a), (3, a)], rfl, ?_⟩
      walk_at "w"
      cases n with
      | zero => exact absurd g.dep (by show ¬ _ + 1 ≤ 0; omega)
      | succ n => exact ⟨rfl, g.lsts.mem a ha⟩
    · exact ⟨(all_true h3).1, by rw [(all_true h3).2]⟩
  | _ => cases ht
theorem c_law_alike (X : Defs K mg a_QUOTING a_SIDES a_BadName i_BadName a_BadNumber i_BadNumber a_BadSaying i_BadSaying a_Letter i_Letter q_Letter) (T : Txt K mg a_QUOTING a_SIDES a_BadName i_BadName a_BadNumber i_BadNumber a_BadSaying i_BadSaying a_Letter i_Letter q_Letter) : ∀ n, Cal P w K mg base "_law_alike" (7 + n) ["told", "due"] [] (SpP K (pre_law_alike n) post_law_alike)
  | 0 => cal_no X.d_law_alike fun ds h => h
  | n + 1 => by
    have c_law_alike := c_law_alike X T n
    have c_law_same := c_law_same (P := P) (w := w) (base := base) X T 5
    refine cal_W (N := N_law_alike) (u_law_alike n T) X.d_law_alike sc_law_alike (fun ds h => ?_) (fun f cdv A outer s H E hr ng => ⟨_, (pss_cons (ps_if (pt_val (pe_callB (call_isiTk (K := K)) (by rfl) T.b_isinstance (by decide +kernel) (pa_cons (pv 1) (pa_cons (pe_tup (pa_cons (pe_bltn (v := .ty "list") (by rfl) T.b_list (by decide +kernel) rfl) (pa_cons (pe_bltn (v := .ty "tuple") (by rfl) T.b_tuple (by decide +kernel) rfl) pa_nil))) pa_nil)))) (pss_cons (ps_if (PW.pt (pw_or (pt_cmpR (op_neDk (K := K) (Room.units hr)) (pe_callB (call_isik (K := K)) (by rfl) T.b_isinstance (by decide +kernel) (pa_cons (pv 0) (pa_cons (pe_bltn (v := .ty "list") (by rfl) T.b_list (by decide +kernel) rfl) pa_nil))) (pe_callB (call_isik (K := K)) (by rfl) T.b_isinstance (by decide +kernel) (pa_cons (pv 1) (pa_cons (pe_bltn (v := .ty "list") (by rfl) T.b_list (by decide +kernel) rfl) pa_nil))) (nomark _)) (pw_or (pt_not (pt_val (pe_callB (call_isiTk (K := K)) (by rfl) T.b_isinstance (by decide +kernel) (pa_cons (pv 0) (pa_cons (pe_tup (pa_cons (pe_bltn (v := .ty "list") (by rfl) T.b_list (by decide +kernel) rfl) (pa_cons (pe_bltn (v := .ty "tuple") (by rfl) T.b_tuple (by decide +kernel) rfl) pa_nil))) pa_nil))))) (pw_or1 (pt_cmpR (op_neDk (K := K) (Room.units hr)) (pe_callB (call_lenk (K := K)) (by rfl) T.b_len (by decide +kernel) (pa_cons (pv 0) pa_nil)) (pe_callB (call_lenk (K := K)) (by rfl) T.b_len (by decide +kernel) (pa_cons (pv 1) pa_nil)) (nomark _)))))) (pss_one (ps_ret pe_bl)) pss_nil)
 (pss_one (ps_ret (pe_callB (cr_allk (K := K) rfl) (by rfl) T.b_all (by decide +kernel) (pa_cons (pe_lc (own := [("one", 2), ("two", 3)]) (g := (gTup K 2 (gCons (gName 2) (gCons (gName 3) gNil)))) (tt := tYes) (by rfl) sc_law_alike.nd (RZ.pi_zipA (by rfl) T.b_zip (pa_cons (pv 0) (pa_cons (pv 1) pa_nil))) (blkOk_by (own := [("one", 2), ("two", 3)]) (N := N_law_alike) (sc := defScope s_law_alike) (by decide +kernel)) (fun _ _ _ _ _ => (pg_tupk (K := K) rfl (pgs_cons (pg_name (i := 2) sc_law_alike.nd rfl (Or.inl rfl)) (pgs_cons (pg_name (i := 3) sc_law_alike.nd rfl (Or.inl rfl)) pgs_nil)))) (fun _ _ _ _ _ => pts_nil) (fun _ _ _ _ _ => (peg_cal c_law_alike hr (Nat.le_refl _) ng rfl (pa_cons (pv 2) (pa_cons (pv 3) pa_nil))))) pa_nil))))) pss_nil)
 (pss_one (ps_ret (peg_cal c_law_same hr (Nat.le_trans (m := 7) (by decide) (Nat.le_add_right _ _)) ng rfl (pa_cons (pv 0) (pa_cons (pv 1) pa_nil)))))), rfl⟩) rfl fun ds hp => ?_
    · match ds, h with
      | [_, _], _ => rfl
    · match ds, hp with
      | [told_, due_], hp => exact w_at (u_law_alike n T) (v_law_alike n T hp) rfl rfl rfl
/-- what is due of an account, a number, a saying -/
def dueD (a n s : D) : D := if nameB a = true then (if wholeB 1 none n = true then (if sayingB s = true then .tup [.str "letter", .tup [a, n, .tup (s.its.getD [])]] else .tup [.str "saying", s]) else .tup [.str "number", .tup [.str "number", n]]) else .tup [.str "name", a]
abbrev pre_law_due : List D → Prop
  | [account_, number_, saying_] => GV account_ ∧ GV number_ ∧ GV saying_
  | _ => False
abbrev post_law_due : List D → D → Prop
  | [account_, number_, saying_], r => r = dueD account_ number_ saying_
  | _, _ => False
def u_law_due (T : Txt K mg a_QUOTING a_SIDES a_BadName i_BadName a_BadNumber i_BadNumber a_BadSaying i_BadSaying a_Letter i_Letter q_Letter) : WS K L2.E0 := (WS.seq (WS.ifS (WT.not (WT.b (WE.call pre_law_is_name post_law_is_name (WA.cons (WE.var 0) WA.nil))))
 (WS.ret (WM.up (WE.tup (WA.cons (WE.str "name") (WA.cons (WE.var 0) WA.nil)))))
 WS.next)
 (WS.seq (WS.ifS (WT.not (WT.b (WE.call pre_law_is_whole post_law_is_whole (WA.cons (WE.var 1) (WA.cons (WE.int 1) (WA.cons WE.non WA.nil))))))
 (WS.ret (WM.up (WE.tup (WA.cons (WE.str "number") (WA.cons (WE.tup (WA.cons (WE.str "number") (WA.cons (WE.var 1) WA.nil))) WA.nil)))))
 WS.next)
 (WS.seq (WS.ifS (WT.not (WT.b (WE.call pre_law_is_saying post_law_is_saying (WA.cons (WE.var 2) WA.nil))))
 (WS.ret (WM.up (WE.tup (WA.cons (WE.str "saying") (WA.cons (WE.var 2) WA.nil)))))
 WS.next)
 (WS.ret (WM.up (WE.tup (WA.cons (WE.str "letter") (WA.cons (WE.tup (WA.cons (WE.var 0) (WA.cons (WE.var 1) (WA.cons (WE.cb ON.tuple (WA.cons (WE.var 2) WA.nil)) WA.nil)))) WA.nil))))))))
theorem v_law_due {account_ number_ saying_ : D} (T : Txt K mg a_QUOTING a_SIDES a_BadName i_BadName a_BadNumber i_BadNumber a_BadSaying i_BadSaying a_Letter i_Letter q_Letter) (hp : GV account_ ∧ GV number_ ∧ GV saying_) : (u_law_due T).w noX [.dat account_, .dat number_, .dat saying_] (retW fun r => r = dueD account_ number_ saying_) := by
  unfold u_law_due
  walk_at "w"
  try simp only [pre_law_is_name, post_law_is_name, pre_law_is_whole, post_law_is_whole, pre_law_is_saying, post_law_is_saying]
  try walk_at "w"
  try simp only [pre_law_is_name, post_law_is_name, pre_law_is_whole, post_law_is_whole, pre_law_is_saying, post_law_is_saying]
  try walk_at "w"

  obtain ⟨ha, hn, hs⟩ := hp
  refine ⟨ha, fun h => ⟨by decide, by unfold dueD; rw [if_neg (by simpa using h)]⟩, fun h => ⟨⟨GV.lv hn, none, rfl⟩, ?_⟩⟩
  rintro d ⟨hi, e, rfl⟩
  cases e
  have h1 : nameB account_ = true := by simpa using h
  refine ⟨_, rfl, fun h => ⟨by decide, by decide, by unfold dueD; rw [if_pos h1, if_neg (by simpa using h)]⟩, fun h => ⟨hs, fun h3 => ⟨by decide, ?_⟩, fun h3 => ?_⟩⟩
  · have h2 : wholeB 1 none number_ = true := by simpa using h
    unfold dueD; rw [if_pos h1, if_pos h2, if_neg (by simpa using h3)]
  · have h2 : wholeB 1 none number_ = true := by simpa using h
    have h4 : sayingB saying_ = true := by simpa using h3
    obtain ⟨l, hl⟩ := its_of_saying h4
    exact ⟨l, hl, by decide, by decide, by unfold dueD; rw [if_pos h1, if_pos h2, if_pos h4, hl]; rfl⟩
theorem c_law_due (X : Defs K mg a_QUOTING a_SIDES a_BadName i_BadName a_BadNumber i_BadNumber a_BadSaying i_BadSaying a_Letter i_Letter q_Letter) (T : Txt K mg a_QUOTING a_SIDES a_BadName i_BadName a_BadNumber i_BadNumber a_BadSaying i_BadSaying a_Letter i_Letter q_Letter) : Cal P w K mg base "_law_due" 5 ["account", "number", "saying"] [] (SpP K pre_law_due post_law_due) := by
  have c_law_is_name := c_law_is_name (P := P) (w := w) (base := base) X T
  have c_law_is_whole := c_law_is_whole (P := P) (w := w) (base := base) X T
  have c_law_is_saying := c_law_is_saying (P := P) (w := w) (base := base) X T
  refine cal_W (N := N_law_due) (u_law_due T) X.d_law_due sc_law_due (fun ds h => ?_) (fun f cdv A outer s H E hr ng => ⟨_, (pss_cons (ps_if (pt_not (pt_val (peg_cal c_law_is_name hr (by decide) ng rfl (pa_cons (pv 0) pa_nil)))) (pss_one (ps_ret (pe_tup (pa_cons pe_str (pa_cons (pv 0) pa_nil))))) pss_nil)
 (pss_cons (ps_if (pt_not (pt_val (peg_cal c_law_is_whole hr (by decide) ng rfl (pa_cons (pv 1) (pa_cons pe_int (pa_cons pe_non pa_nil)))))) (pss_one (ps_ret (pe_tup (pa_cons pe_str (pa_cons (pe_tup (pa_cons pe_str (pa_cons (pv 1) pa_nil))) pa_nil))))) pss_nil)
 (pss_cons (ps_if (pt_not (pt_val (peg_cal c_law_is_saying hr (by decide) ng rfl (pa_cons (pv 2) pa_nil)))) (pss_one (ps_ret (pe_tup (pa_cons pe_str (pa_cons (pv 2) pa_nil))))) pss_nil)
 (pss_one (ps_ret (pe_tup (pa_cons pe_str (pa_cons (pe_tup (pa_cons (pv 0) (pa_cons (pv 1) (pa_cons (pe_callTy (call_tuple_ofk (K := K)) (by rfl) T.b_tuple (by decide +kernel) (pa_cons (pv 2) pa_nil)) pa_nil)))) pa_nil)))))))), rfl⟩) rfl fun ds hp => ?_
  · match ds, h with
    | [_, _, _], _ => rfl
  · match ds, hp with
    | [account_, number_, saying_], hp => exact w_at (u_law_due T) (v_law_due T hp) rfl rfl rfl
theorem lk_what {a b : D} : lookD ["number", "what"] [a, b] "what" = some b := by
  show (if ("what" : Str) = "number" then some a else if ("what" : Str) = "what" then some b else none) = some b
  rw [if_neg (by decide +kernel)]; exact if_pos rfl
abbrev pre_law_made : List D → Prop
  | [account_, number_, saying_] => GV account_ ∧ GV number_ ∧ GV saying_
  | _ => False
abbrev post_law_made : List D → D → Prop
  | [account_, number_, saying_], r => r = dueD account_ number_ saying_
  | _, _ => False
def u_law_made (T : Txt K mg a_QUOTING a_SIDES a_BadName i_BadName a_BadNumber i_BadNumber a_BadSaying i_BadSaying a_Letter i_Letter q_Letter) : WS K L2.E0 := (WS.seq (WS.tryMk 3 a_Letter ["account", "number", "saying"] pre_Letter post_Letter (exc_Letter a_QUOTING a_SIDES a_BadName i_BadName a_BadNumber i_BadNumber a_BadSaying i_BadSaying a_Letter i_Letter q_Letter) (WA.cons (WE.var 0) (WA.cons (WE.var 1) (WA.cons (WE.var 2) WA.nil))) [⟨.ref a_BadName, 4, fun a cls d => (WS.ret (WM.up (WE.tup (WA.cons (WE.str "name") (WA.cons (WE.xf a cls d a_BadName "name" (WE.var 4)) WA.nil)))))⟩, ⟨.ref a_BadNumber, 4, fun a cls d => (WS.ret (WM.up (WE.tup (WA.cons (WE.str "number") (WA.cons (WE.tup (WA.cons (WE.xf a cls d a_BadNumber "what" (WE.var 4)) (WA.cons (WE.xf a cls d a_BadNumber "number" (WE.var 4)) WA.nil))) WA.nil)))))⟩, ⟨.ref a_BadSaying, 4, fun a cls d => (WS.ret (WM.up (WE.tup (WA.cons (WE.str "saying") (WA.cons (WE.xf a cls d a_BadSaying "saying" (WE.var 4)) WA.nil)))))⟩] 0 (by intro q hq a c d; simp only [List.mem_cons, List.not_mem_nil, or_false] at hq; rcases hq with rfl | rfl | rfl <;> exact Nat.le_refl _))
 (WS.ret (WM.up (WE.tup (WA.cons (WE.str "letter") (WA.cons (WE.tup (WA.cons (WE.fldR "account" (WE.var 3)) (WA.cons (WE.fldR "number" (WE.var 3)) (WA.cons (WE.fldR "saying" (WE.var 3)) WA.nil)))) WA.nil))))))
theorem v_law_made {account_ number_ saying_ : D} (T : Txt K mg a_QUOTING a_SIDES a_BadName i_BadName a_BadNumber i_BadNumber a_BadSaying i_BadSaying a_Letter i_Letter q_Letter) (hp : GV account_ ∧ GV number_ ∧ GV saying_) : (u_law_made T).w noX [.dat account_, .dat number_, .dat saying_, .un, .un] (retW fun r => r = dueD account_ number_ saying_) := by
  unfold u_law_made
  walk_at "w"

  obtain ⟨ha, hn, hs⟩ := hp
  refine ⟨⟨ha, hn, hs⟩, fun es hq => ?_, fun C' fs hx => ?_⟩
  · obtain ⟨h1, h2, h3, l, hl, rfl⟩ := hq
    exact ⟨_, _, _, rfl, T.l_Letter.cl, T.l_Letter.na _ (by simp), _, lk_a, _, _, _, rfl, T.l_Letter.cl, T.l_Letter.na _ (by simp), _, lk_n, _, _, _, rfl, T.l_Letter.cl, T.l_Letter.na _ (by simp), _, lk_s, by decide, by decide, by unfold dueD; rw [if_pos h1, if_pos h2, if_pos h3, hl]; rfl⟩
  · rcases hx with ⟨h1, rfl, rfl⟩ | ⟨h1, h2, rfl, rfl⟩ | ⟨h1, h2, h3, rfl, rfl⟩
    · refine ⟨true, T.x_BadName.self, fun _ x dx => ?_, (fun e => nomatch e)⟩
      walk_at "w"
      exact ⟨dx, _, _, rfl, rfl, _, if_pos rfl, by decide, by unfold dueD; rw [if_neg (by rw [h1]; decide)]⟩
    · refine ⟨false, T.z_BadNumber_BadName, (fun e => nomatch e), fun _ => ⟨true, T.x_BadNumber.self, fun _ x dx => ?_, (fun e => nomatch e)⟩⟩
      walk_at "w"
      exact ⟨dx, _, _, rfl, rfl, _, lk_what, dx, _, _, rfl, rfl, _, if_pos rfl, by decide, by decide, by unfold dueD; rw [if_pos h1, if_neg (by rw [h2]; decide)]⟩
    · refine ⟨false, T.z_BadSaying_BadName, (fun e => nomatch e), fun _ => ⟨false, T.z_BadSaying_BadNumber, (fun e => nomatch e), fun _ => ⟨true, T.x_BadSaying.self, fun _ x dx => ?_, (fun e => nomatch e)⟩⟩⟩
      walk_at "w"
      exact ⟨dx, _, _, rfl, rfl, _, if_pos rfl, by decide, by unfold dueD; rw [if_pos h1, if_pos h2, if_neg (by rw [h3]; decide)]⟩
theorem c_law_made (X : Defs K mg a_QUOTING a_SIDES a_BadName i_BadName a_BadNumber i_BadNumber a_BadSaying i_BadSaying a_Letter i_Letter q_Letter) (T : Txt K mg a_QUOTING a_SIDES a_BadName i_BadName a_BadNumber i_BadNumber a_BadSaying i_BadSaying a_Letter i_Letter q_Letter) : Cal P w K mg base "_law_made" 11 ["account", "number", "saying"] [] (SpP K pre_law_made post_law_made) := by
  have m_Letter := m_Letter (P := P) (w := w) (base := base) X T
  refine cal_W (N := N_law_made) (u_law_made T) X.d_law_made sc_law_made (fun ds h => ?_) (fun f cdv A outer s H E hr ng => ⟨_, (pss_cons (ps_try_someAs (l := (clT (K := K) (E := L2.E0) [⟨.ref a_BadName, 4, fun a cls d => (WS.ret (WM.up (WE.tup (WA.cons (WE.str "name") (WA.cons (WE.xf a cls d a_BadName "name" (WE.var 4)) WA.nil)))))⟩, ⟨.ref a_BadNumber, 4, fun a cls d => (WS.ret (WM.up (WE.tup (WA.cons (WE.str "number") (WA.cons (WE.tup (WA.cons (WE.xf a cls d a_BadNumber "what" (WE.var 4)) (WA.cons (WE.xf a cls d a_BadNumber "number" (WE.var 4)) WA.nil))) WA.nil)))))⟩, ⟨.ref a_BadSaying, 4, fun a cls d => (WS.ret (WM.up (WE.tup (WA.cons (WE.str "saying") (WA.cons (WE.xf a cls d a_BadSaying "saying" (WE.var 4)) WA.nil)))))⟩])) (tb := fun W => tAsg (tMakeSD a_Letter (SpNew K a_Letter ["account", "number", "saying"] pre_Letter post_Letter (exc_Letter a_QUOTING a_SIDES a_BadName i_BadName a_BadNumber i_BadNumber a_BadSaying i_BadSaying a_Letter i_Letter q_Letter)) (L2.WE W) (WA.cons (K := K) (E := L2.E0) (WE.var 0) (WA.cons (WE.var 1) (WA.cons (WE.var 2) WA.nil))).t) (gName 3)) (Wo := fun cls d _ H => L2.E0 cls d H) rfl rfl sc_law_made.nd takes0 (fun W pn xe tk _ => (pss_one (ps_set (i := 3) sc_law_made.nd rfl (Or.inl rfl) (peg_makX m_Letter hr (by decide) ng rfl tk (pa_cons (pv 0) (pa_cons (pv 1) (pa_cons (pv 2) pa_nil))))))) (.cons (i := 4) ⟨rfl, by decide, Or.inl T.x_BadName.m⟩ rfl rfl (fun a oe cls d pn hz hf => (pss_one (ps_ret (pe_tup (pa_cons pe_str (pa_cons (pe_xf T.x_BadName.xf (T.x_BadName.no _ (by simp)) hz hf (pv 4)) pa_nil)))))) (.cons (i := 4) ⟨rfl, by decide, Or.inl T.x_BadNumber.m⟩ rfl rfl (fun a oe cls d pn hz hf => (pss_one (ps_ret (pe_tup (pa_cons pe_str (pa_cons (pe_tup (pa_cons (pe_xf T.x_BadNumber.xf (T.x_BadNumber.no _ (by simp)) hz hf (pv 4)) (pa_cons (pe_xf T.x_BadNumber.xf (T.x_BadNumber.no _ (by simp)) hz hf (pv 4)) pa_nil))) pa_nil)))))) (.cons (i := 4) ⟨rfl, by decide, Or.inl T.x_BadSaying.m⟩ rfl rfl (fun a oe cls d pn hz hf => (pss_one (ps_ret (pe_tup (pa_cons pe_str (pa_cons (pe_xf T.x_BadSaying.xf (T.x_BadSaying.no _ (by simp)) hz hf (pv 4)) pa_nil)))))) .nil))))
 (pss_one (ps_ret (pe_tup (pa_cons pe_str (pa_cons (pe_tup (pa_cons (pe_fld (pv 3) rfl) (pa_cons (pe_fld (pv 3) rfl) (pa_cons (pe_fld (pv 3) rfl) pa_nil)))) pa_nil)))))), rfl⟩) rfl fun ds hp => ?_
  · match ds, h with
    | [_, _, _], _ => rfl
  · match ds, hp with
    | [account_, number_, saying_], hp => exact w_at (u_law_made T) (v_law_made T hp) rfl rfl rfl
end
end K23
set_option maxRecDepth 100000
set_option maxHeartbeats 8000000
namespace K23
open PySem L2 PyProof.Rows DL
section
variable {P : Program} {w : World} {K : PySem.W.Frag} {mg : Str → Option Value} {base : Heap} {a_QUOTING a_SIDES a_BadName i_BadName a_BadNumber i_BadNumber a_BadSaying i_BadSaying a_Letter i_Letter q_Letter : Addr}
local macro_rules | `(tactic| walk_at "w") => `(tactic| simp only [DL.w_var, DL.w_int, DL.w_bl, DL.w_str, DL.w_non, DL.w_ktup, DL.w_op, DL.w_neg, DL.w_chain, DL.w_nil, DL.w_cons, DL.w_tup, DL.w_lst, DL.w_tst, DL.w_tb, DL.w_not, DL.w_yes, DL.w_and, DL.w_or, DL.w_andV, DL.w_orV, DL.w_notV, DL.w_ite, DL.w_none, DL.w_some, DL.w_sl, DL.w_cb, DL.w_isi, DL.w_isi2, DL.w_call, DL.w_callD, DL.w_callX, DL.w_callG, DL.w_split, DL.w_dget, DL.w_knil, DL.w_kcons, DL.w_dispK, DL.w_seqI, DL.w_rng1, DL.w_rng2, DL.w_enum, DL.w_zip, DL.w_lc, DL.w_borrow, DL.w_up, DL.w_popAt, DL.w_next, DL.w_brk, DL.w_cont, DL.w_seq, DL.w_ret, DL.w_retN, DL.w_asg, DL.w_asgT, DL.w_asgOwn, DL.w_drop, DL.w_ifS, DL.w_append, DL.w_raiseO, DL.w_xf, DL.w_tryAsg, DL.w_frz, frzAt_0, frzAt_d, frzAt_u, frzAt_s, DL.w_forS, DL.w_par, DL.w_parLE,
  DL.q_int, DL.q_cmp, DL.q_intC, DL.q_addI, DL.q_addS, DL.q_addT, DL.q_addL, DL.q_mulI, DL.q_mulS, DL.q_mulL, DL.q_eq, DL.q_ne, DL.q_isN, DL.q_isB, DL.q_notN, DL.q_inT, DL.q_inL, DL.q_inS, DL.q_ninT, DL.q_ninL, DL.q_ninS, DL.q_ixL, DL.q_ixT, DL.q_ixS, DL.n_len, DL.n_list, DL.n_tuple, DL.n_all, DL.n_any, DL.n_sum, DL.n_sortedS, DL.n_min2, DL.n_max2, DL.n_int1, DL.n_strI, DL.n_repr, DL.g_name, DL.is_name, cut_tup, cut_lst,  isi_str, isi_int, isi_bool, isi_tuple, isi_list,
  datAt_0, datAt_s, ownAt_0, ownAt_s, penIs_0, penIs_s, setD_nil, setD_cons, wipeG, List.set_cons_zero, List.set_cons_succ, List.set_nil, List.map_cons, List.map_nil, List.cons_append, List.nil_append,
  D.bl.injEq, D.int.injEq, D.str.injEq, exists_eq_left', exists_eq_left, exists_and_left, exists_eq', exists_eq, true_and, and_true, true_imp_iff, false_imp_iff, Bool.true_eq_false, Bool.false_eq_true, forall_const, Bool.not_true, Bool.not_false, List.length_cons, List.length_nil, eqv_str, eqv_int, ok_int, ok_bl, ok_non, forall_eq, atI_0, atI_1, atI_2, atI_3, List.getElem?_cons_zero, List.getElem?_cons_succ, List.getElem?_nil, Option.some.injEq, Sk.own.injEq, len_tup, len_lst, its_tup, its_lst, itemsOf_tup, itemsOf_lst, itemsOf_str, isS_str, isT_tup, isL_lst, isI_int, isB_bl, builtin_str, builtin_tup, builtin_lst, builtin_int, builtin_bl, builtin_non, D.sign_one, List.all_cons, List.all_nil, Bool.and_true])

/-- a bent row: at most one part more, and not much larger -/
def BentP (ds : List D) (r : D) : Prop := ∃ es, r = .tup es ∧ es.length ≤ ds.length + 1 ∧ ∀ n, GDs 8 n ds → GDs 8 (6 * n + 20000) es
theorem cutD_from1 {ds : List D} {n : Nat} : cutD ds (some ((n : Int) + 1)) none = ds.drop (n + 1) := cutD_from (n := n + 1)
theorem bent_put {k n m : Nat} {ds : List D} {x : D} {p q : Nat} (h : GDs k n ds) (hx : GD k m x) : GDs k (n + (m + 2) + n) (ds.take p ++ [x] ++ ds.drop q) :=
  ((h.take p).app ((GDs.cons hx (GDs.nil (n := 0))).mono (Nat.le_refl _) (Nat.le_refl _))).app (h.drop q)
theorem bent_mk {ds : List D} {x : D} {p q : Nat} (h : p ≤ q) (hq : p ≤ ds.length) (hx : ∀ n, GDs 8 n ds → GD 8 (4 * n + 15000) x) : BentP ds (.tup (ds.take p ++ [x] ++ ds.drop q)) := by
  refine ⟨_, rfl, ?_, fun n hn => (bent_put hn (hx n hn)).mono (Nat.le_refl _) (by omega)⟩
  simp only [List.length_append, List.length_take, List.length_drop, List.length_cons, List.length_nil]
  omega
theorem bent_out {ds : List D} {p : Nat} : BentP ds (.tup (ds.take p ++ ds.drop (p + 1))) := by
  refine ⟨_, rfl, ?_, fun n hn => ((hn.take p).app (hn.drop _)).mono (Nat.le_refl _) (by omega)⟩
  simp only [List.length_append, List.length_take, List.length_drop]
  omega
theorem odd_w {d : D} (h : GD 3 5000 d) (n : Nat) : GD 8 (4 * n + 15000) d := h.mono (by decide) (by omega)
theorem put_le {ds : List D} {p q : Nat} {x : D} (h : ds.length ≤ 900000) (hq : p ≤ q) : (ds.take p).length + (0 + 1) ≤ 1000000 ∧ (ds.take p ++ [x]).length + (ds.drop q).length ≤ 1000000 := by
  simp only [List.length_take, List.length_drop, List.length_append, List.length_cons, List.length_nil]; omega
theorem ix_at {l : List D} {s : Nat} {d : D} {φ : D → Prop} (e : l[s]? = some d) (k : φ d) : (O2.ix (K := K)).w (.tup l) (.int (s : Int)) φ := ⟨d, Eq.trans (DL.atI_nat (Int.natCast_nonneg s)) e, k⟩
theorem put_step {l : List D} {s : Nat} {x : D} {φ : D → Prop} (h : l.length ≤ 900000) (k : φ (.tup (l.take s ++ [x] ++ l.drop (s + 1)))) :
    (O2.add (K := K)).w ((D.tup l).cut none (some (s : Int))) (.tup [x]) fun y => (O2.add (K := K)).w (.int (s : Int)) (.int 1) fun d => ∃ i, d = .int i ∧ (D.tup l).seq = true ∧ (O2.add (K := K)).w y ((D.tup l).cut (some i) none) φ := by
  show (cutD l none (some (s : Int))).length + (0 + 1) ≤ 1000000 ∧ ∃ i, D.int ((s : Int) + 1) = .int i ∧ (D.tup l).seq = true ∧ (O2.add (K := K)).w (.tup (cutD l none (some (s : Int)) ++ [x])) ((D.tup l).cut (some i) none) φ
  refine ⟨?_, _, rfl, rfl, ?_⟩
  · rw [cutD_to]; exact (put_le (x := x) h (Nat.le_refl s)).1
  · show (cutD l none (some (s : Int)) ++ [x]).length + (cutD l (some ((s : Int) + 1)) none).length ≤ 1000000 ∧ φ (.tup (cutD l none (some (s : Int)) ++ [x] ++ cutD l (some ((s : Int) + 1)) none))
    rw [cutD_to, cutD_from1]
    exact ⟨(put_le h (by omega)).2, k⟩
abbrev m_law_bent : Nat := 10
abbrev pre_law_bent : List D → Prop
  | [value_] => ∃ ds, value_ = .tup ds ∧ ds.length ≤ 40 ∧ GDs 8 1600000 ds
  | _ => False
abbrev post_law_bent : List D → D → Prop
  | [value_], r => ∃ ds, value_ = .tup ds ∧ BentP ds r
  | _, _ => False
def u_law_bent_17 (T : Txt K mg a_QUOTING a_SIDES a_BadName i_BadName a_BadNumber i_BadNumber a_BadSaying i_BadSaying a_Letter i_Letter q_Letter) : WS K L2.E0 := (WS.ret (WM.up (WE.op O2.add (WE.op O2.add (WE.sl (WE.var 1) WO.none (WO.some (WE.var 2))) (WE.tup (WA.cons (WE.callG m_law_odd pre_law_odd post_law_odd 0 WA.nil) WA.nil))) (WE.sl (WE.var 1) (WO.some (WE.op O2.add (WE.var 2) (WE.int 1))) WO.none))))
def u_law_bent_16 (T : Txt K mg a_QUOTING a_SIDES a_BadName i_BadName a_BadNumber i_BadNumber a_BadSaying i_BadSaying a_Letter i_Letter q_Letter) : WS K L2.E0 := (WS.ret (WM.up (WE.op O2.add (WE.op O2.add (WE.sl (WE.var 1) WO.none (WO.some (WE.var 2))) (WE.tup (WA.cons (WE.var 4) WA.nil))) (WE.sl (WE.var 1) (WO.some (WE.op O2.add (WE.var 2) (WE.int 1))) WO.none))))
def u_law_bent_11 (T : Txt K mg a_QUOTING a_SIDES a_BadName i_BadName a_BadNumber i_BadNumber a_BadSaying i_BadSaying a_Letter i_Letter q_Letter) : WS K L2.E0 := (WS.seq (WS.asg 6 (WM.up (WE.op O2.ix (WE.var 4) (WE.var 5))))
 (WS.seq (WS.asg 7 (WM.up (WE.callG m_law_draw pre_law_draw post_law_draw 0 (WA.cons (WE.op O2.add (WE.cb ON.len (WA.cons (WE.var 6) WA.nil)) (WE.int 1)) WA.nil))))
 (WS.asg 4 (WM.up (WE.op O2.add (WE.op O2.add (WE.sl (WE.var 4) WO.none (WO.some (WE.var 5))) (WE.tup (WA.cons (WE.op O2.add (WE.op O2.add (WE.sl (WE.var 6) WO.none (WO.some (WE.var 7))) (WE.tup (WA.cons (WE.callG m_law_odd pre_law_odd post_law_odd 0 WA.nil) WA.nil))) (WE.sl (WE.var 6) (WO.some (WE.op O2.add (WE.var 7) (WE.callG m_law_draw pre_law_draw post_law_draw 0 (WA.cons (WE.int 2) WA.nil)))) WO.none)) WA.nil))) (WE.sl (WE.var 4) (WO.some (WE.op O2.add (WE.var 5) (WE.int 1))) WO.none))))))
def u_law_bent_8 (T : Txt K mg a_QUOTING a_SIDES a_BadName i_BadName a_BadNumber i_BadNumber a_BadSaying i_BadSaying a_Letter i_Letter q_Letter) : WS K L2.E0 := (WS.seq (WS.asg 4 (WM.up (WE.op O2.ix (WE.var 1) (WE.var 2))))
 (WS.seq (WS.asg 5 (WM.up (WE.callG m_law_draw pre_law_draw post_law_draw 0 (WA.cons (WE.cb ON.len (WA.cons (WE.var 4) WA.nil)) WA.nil))))
 (WS.seq (WS.ifS (WT.and (WT.b (WE.isi "tuple" (WE.op O2.ix (WE.var 4) (WE.var 5)))) (WT.tst (WE.op O2.eq (WE.callG m_law_draw pre_law_draw post_law_draw 0 (WA.cons (WE.int 2) WA.nil)) (WE.int 0))))
 (u_law_bent_11 T)
 (WS.asg 4 (WM.up (WE.op O2.add (WE.op O2.add (WE.sl (WE.var 4) WO.none (WO.some (WE.var 5))) (WE.tup (WA.cons (WE.callG m_law_odd pre_law_odd post_law_odd 0 WA.nil) WA.nil))) (WE.sl (WE.var 4) (WO.some (WE.op O2.add (WE.var 5) (WE.int 1))) WO.none)))))
 (u_law_bent_16 T))))
def u_law_bent_7 (T : Txt K mg a_QUOTING a_SIDES a_BadName i_BadName a_BadNumber i_BadNumber a_BadSaying i_BadSaying a_Letter i_Letter q_Letter) : WS K L2.E0 := (WS.seq (WS.ifS (WT.and (WT.b (WE.isi "tuple" (WE.op O2.ix (WE.var 1) (WE.var 2)))) (WT.and (WT.tst (WE.op (O2.cmp fun i j => decide (j < i)) (WE.cb ON.len (WA.cons (WE.op O2.ix (WE.var 1) (WE.var 2)) WA.nil)) (WE.int 0))) (WT.tst (WE.op O2.eq (WE.var 3) (WE.int 2)))))
 (u_law_bent_8 T)
 WS.next)
 (u_law_bent_17 T))
def u_law_bent_5 (T : Txt K mg a_QUOTING a_SIDES a_BadName i_BadName a_BadNumber i_BadNumber a_BadSaying i_BadSaying a_Letter i_Letter q_Letter) : WS K L2.E0 := (WS.seq (WS.ifS (WT.tst (WE.op O2.eq (WE.var 3) (WE.int 1)))
 (WS.ret (WM.up (WE.op O2.add (WE.sl (WE.var 1) WO.none (WO.some (WE.var 2))) (WE.sl (WE.var 1) (WO.some (WE.op O2.add (WE.var 2) (WE.int 1))) WO.none))))
 WS.next)
 (u_law_bent_7 T))
def u_law_bent (T : Txt K mg a_QUOTING a_SIDES a_BadName i_BadName a_BadNumber i_BadNumber a_BadSaying i_BadSaying a_Letter i_Letter q_Letter) : WS K L2.E0 := (WS.seq (WS.asg 2 (WM.up (WE.callG m_law_draw pre_law_draw post_law_draw 0 (WA.cons (WE.op O2.add (WE.cb ON.len (WA.cons (WE.var 1) WA.nil)) (WE.int 1)) WA.nil))))
 (WS.seq (WS.asg 3 (WM.up (WE.callG m_law_draw pre_law_draw post_law_draw 0 (WA.cons (WE.int 4) WA.nil))))
 (WS.seq (WS.ifS (WT.or (WT.tst (WE.op O2.eq (WE.var 2) (WE.cb ON.len (WA.cons (WE.var 1) WA.nil)))) (WT.tst (WE.op O2.eq (WE.var 3) (WE.int 0))))
 (WS.ret (WM.up (WE.op O2.add (WE.op O2.add (WE.sl (WE.var 1) WO.none (WO.some (WE.var 2))) (WE.tup (WA.cons (WE.callG m_law_odd pre_law_odd post_law_odd 0 WA.nil) WA.nil))) (WE.sl (WE.var 1) (WO.some (WE.var 2)) WO.none))))
 WS.next)
 (u_law_bent_5 T))))
theorem bent_16 {ds : List D} {x w : D} {p : Nat} {s5 s6 s7 : Sk} (T : Txt K mg a_QUOTING a_SIDES a_BadName i_BadName a_BadNumber i_BadNumber a_BadSaying i_BadSaying a_Letter i_Letter q_Letter) (hl : ds.length ≤ 40) (hp : p < ds.length) {W : Wh} (k : ∀ r, BentP ds r → W.R r) (hx : ∀ n, GDs 8 n ds → GD 8 (4 * n + 15000) x) :
    (u_law_bent_16 T).w noX [.pen, .dat (.tup ds), .dat (.int (p : Int)), .dat w, .dat x, s5, s6, s7] W := by
  unfold u_law_bent_16
  walk_at "w"
  simp only [cutD_to, cutD_from1]
  have h1 := put_le (ds := ds) (p := p) (q := p + 1) (x := x) (by omega) (by omega)
  exact ⟨rfl, by decide, h1.1, rfl, h1.2, k _ (bent_mk (by omega) (by omega) hx)⟩

theorem bent_17 {ds : List D} {w : D} {p : Nat} {s4 s5 s6 s7 : Sk} {W : Wh} (T : Txt K mg a_QUOTING a_SIDES a_BadName i_BadName a_BadNumber i_BadNumber a_BadSaying i_BadSaying a_Letter i_Letter q_Letter) (k : ∀ r, BentP ds r → W.R r) (hl : ds.length ≤ 40) (hp : p < ds.length) :
    (u_law_bent_17 T).w noX [.pen, .dat (.tup ds), .dat (.int (p : Int)), .dat w, s4, s5, s6, s7] W := by
  unfold u_law_bent_17
  walk_at "w"
  simp only [cutD_to, cutD_from1]
  refine ⟨rfl, fun x hx => ?_⟩
  have h1 := put_le (ds := ds) (p := p) (q := p + 1) (x := x) (by omega) (by omega)
  exact ⟨by decide, h1.1, rfl, h1.2, k _ (bent_mk (by omega) (by omega) (fun n _ => odd_w hx n))⟩

theorem bent_11 {ds l deep : List D} {w : D} {p s : Nat} {s6 s7 : Sk} {W : Wh} (T : Txt K mg a_QUOTING a_SIDES a_BadName i_BadName a_BadNumber i_BadNumber a_BadSaying i_BadSaying a_Letter i_Letter q_Letter) (e2 : l[s]? = some (.tup deep)) (hl : l.length ≤ 900000) (hd : deep.length ≤ 900000)
    (k : ∀ x s6 s7, (∀ n, GDs 7 n l → GD 8 (4 * n + 15000) x) → W.N [.pen, .dat (.tup ds), .dat (.int (p : Int)), .dat w, .dat x, .dat (.int (s : Int)), s6, s7]) :
    (u_law_bent_11 T).w noX [.pen, .dat (.tup ds), .dat (.int (p : Int)), .dat w, .dat (.tup l), .dat (.int (s : Int)), s6, s7] W := by
  unfold u_law_bent_11
  simp only [DL.w_seq, DL.w_asg, DL.w_up, DL.w_op, DL.w_var, datAt_0, datAt_s, List.set_cons_succ, List.set_cons_zero]
  refine ix_at e2 ?_
  walk_at "w"
  simp only [pre_law_draw, post_law_draw]
  refine ⟨⟨by omega, by omega⟩, ?_⟩
  rintro d ⟨a, rfl, a0, a1⟩
  obtain ⟨a, rfl⟩ : ∃ m : Nat, a = (m : Int) := ⟨a.toNat, by omega⟩
  walk_at "w"
  simp only [cutD_to, cutD_from1]
  refine ⟨rfl, rfl, fun x hx => ⟨by decide, (put_le (x := x) hd (Nat.le_refl a)).1, ⟨by decide, by decide⟩, ?_⟩⟩
  rintro d ⟨j, rfl, j0, j1⟩
  obtain ⟨j, rfl⟩ : ∃ m : Nat, j = (m : Int) := ⟨j.toNat, by omega⟩
  walk_at "w"
  rw [show ((a : Int) + (j : Int)) = ((a + j : Nat) : Int) from rfl]
  simp only [cutD_from]
  refine ⟨rfl, (put_le hd (by omega)).2, by decide, (put_le (x := x) hl (Nat.le_refl s)).1, rfl, (put_le hl (by omega)).2, k _ _ _ fun n hn => ?_⟩
  have g1 : GDs 6 n deep := (hn.mem _ (List.mem_of_getElem? e2)).tups
  have g2 := (bent_put (p := a) (q := a + j) g1 (hx.mono (k' := 6) (by decide) (Nat.le_refl _))).tup
  exact (bent_put (p := s) (q := s + 1) hn g2).tup.mono (by decide) (by omega)

theorem bent_8 {ds l : List D} {w : D} {p : Nat} {s4 s5 s6 s7 : Sk} {W : Wh} (T : Txt K mg a_QUOTING a_SIDES a_BadName i_BadName a_BadNumber i_BadNumber a_BadSaying i_BadSaying a_Letter i_Letter q_Letter) (k : ∀ r, BentP ds r → W.R r) (hl : ds.length ≤ 40) (hp : ds[p]? = some (.tup l)) (h0 : GDs 8 1600000 ds) (hn : 0 < l.length) :
    (u_law_bent_8 T).w noX [.pen, .dat (.tup ds), .dat (.int (p : Int)), .dat w, s4, s5, s6, s7] W := by
  have gl : ∀ n, GDs 8 n ds → GDs 7 n l := fun n hn => (hn.mem _ (List.mem_of_getElem? hp)).tups
  have hp' : p < ds.length := (List.getElem?_eq_some_iff.mp hp).1
  have hll : l.length ≤ 900000 := by have := ws_len l; have := (gl _ h0).w; omega
  unfold u_law_bent_8
  simp only [DL.w_seq, DL.w_asg, DL.w_up, DL.w_op, DL.w_var, datAt_0, datAt_s, List.set_cons_succ, List.set_cons_zero]
  refine ix_at hp ?_
  walk_at "w"
  simp only [pre_law_draw, post_law_draw]
  refine ⟨⟨by omega, by omega⟩, ?_⟩
  rintro d1 ⟨s, rfl, s0, s1⟩
  obtain ⟨s, rfl⟩ : ∃ m : Nat, s = (m : Int) := ⟨s.toNat, by omega⟩
  have hs : s < l.length := by omega
  have e2 : l[s]? = some l[s] := List.getElem?_eq_getElem hs
  have g2 : GD 7 1600000 l[s] := (gl _ h0).mem _ (List.getElem_mem hs)
  generalize l[s] = x2 at e2 g2
  have hb : x2.builtin = true := GV.bi (g2.mono (by decide) (by decide))
  refine ix_at e2 ⟨hb, ?_⟩
  walk_at "w"
  simp only [cutD_to, cutD_from1]
  have plain : ∀ x, GD 3 5000 x → ∀ n, GDs 8 n ds → GD 8 (4 * n + 15000) (.tup (l.take s ++ [x] ++ l.drop (s + 1))) := fun x hx n hn =>
    (bent_put (gl n hn) (hx.mono (k' := 7) (by decide) (Nat.le_refl _))).tup.mono (by decide) (by omega)
  refine ⟨fun hT => ⟨⟨by decide, by decide⟩, ?_⟩, fun _ => ⟨rfl, fun x hx => ⟨by decide, (put_le (x := x) hll (Nat.le_refl s)).1, rfl, (put_le hll (by omega)).2, bent_16 T hl hp' k (plain x hx)⟩⟩⟩
  rintro d ⟨j, rfl, j0, j1⟩
  walk_at "w"
  refine ⟨fun _ => ?_, fun _ => ⟨rfl, fun x hx => ⟨by decide, (put_le (x := x) hll (Nat.le_refl s)).1, rfl, (put_le hll (by omega)).2, bent_16 T hl hp' k (plain x hx)⟩⟩⟩
  cases x2 with
  | tup deep =>
    have hd : deep.length ≤ 900000 := by have := ws_len deep; have := g2.tups.w; omega
    exact bent_11 T e2 hll hd fun x s6 s7 hx => bent_16 T hl hp' k fun n hn => hx n (gl n hn)
  | _ => cases hT

theorem bent_5 {ds : List D} {w : Int} {p : Nat} {s4 s5 s6 s7 : Sk} {W : Wh} (T : Txt K mg a_QUOTING a_SIDES a_BadName i_BadName a_BadNumber i_BadNumber a_BadSaying i_BadSaying a_Letter i_Letter q_Letter) (k : ∀ r, BentP ds r → W.R r) (hl : ds.length ≤ 40) (hp : p < ds.length) (h0 : GDs 8 1600000 ds) :
    (u_law_bent_5 T).w noX [.pen, .dat (.tup ds), .dat (.int (p : Int)), .dat (.int w), s4, s5, s6, s7] W := by
  have e2 : atI ds (p : Int) = some ds[p] := Eq.trans (DL.atI_nat (Int.natCast_nonneg p)) (List.getElem?_eq_getElem hp)
  have e3 : ds[p]? = some ds[p] := List.getElem?_eq_getElem hp
  have g2 : GD 8 1600000 ds[p] := h0.mem _ (List.getElem_mem hp)
  generalize ds[p] = x2 at e2 e3 g2
  unfold u_law_bent_5 u_law_bent_7
  walk_at "w"
  refine ⟨fun _ => ?_, fun _ => ⟨x2, e2, GV.bi (g2.mono (by decide) (by decide)), fun hT => ?_, fun _ => bent_17 T k hl hp⟩⟩
  · simp only [cutD_to, cutD_from1]
    have h1 := put_le (ds := ds) (p := p) (q := p + 1) (x := x2) (by omega) (by omega)
    exact ⟨rfl, rfl, by have := h1.2; rw [List.length_append] at this; omega, k _ bent_out⟩
  · cases x2 with
    | tup l => exact ⟨_, e2, _, rfl, fun hk => ⟨fun _ => bent_8 T k hl e3 h0 (by have := of_decide_eq_true hk; omega), fun _ => bent_17 T k hl hp⟩, fun _ => bent_17 T k hl hp⟩
    | _ => cases hT
theorem v_law_bent {value_ : D} (T : Txt K mg a_QUOTING a_SIDES a_BadName i_BadName a_BadNumber i_BadNumber a_BadSaying i_BadSaying a_Letter i_Letter q_Letter) (hp : ∃ ds, value_ = .tup ds ∧ ds.length ≤ 40 ∧ GDs 8 1600000 ds) : (u_law_bent T).w noX [.pen, .dat value_, .un, .un, .un, .un, .un, .un] (retW fun r => ∃ ds, value_ = .tup ds ∧ BentP ds r) := by
  unfold u_law_bent

  obtain ⟨ds, rfl, hl, h0⟩ := hp
  walk_at "w"
  simp only [pre_law_draw, post_law_draw]
  refine ⟨⟨by omega, by omega⟩, ?_⟩
  rintro d ⟨p, rfl, p0, p1⟩
  obtain ⟨p, rfl⟩ : ∃ m : Nat, p = (m : Int) := ⟨p.toNat, by omega⟩
  refine ⟨⟨by decide, by decide⟩, ?_⟩
  rintro d ⟨w, rfl, w0, w1⟩
  walk_at "w"
  simp only [cutD_to, cutD_from]
  have hl' : ds.length ≤ 900000 := by omega
  refine ⟨fun he => ⟨fun _ => ⟨rfl, fun x hx => ⟨by decide, (put_le (x := x) hl' (Nat.le_refl p)).1, rfl, (put_le hl' (Nat.le_refl p)).2, ds, rfl, bent_mk (Nat.le_refl p) (by omega) (fun n _ => odd_w hx n)⟩⟩, fun _ => bent_5 T (fun r h => ⟨ds, rfl, h⟩) hl (by have := of_decide_eq_false he; omega) h0⟩,
    fun _ => ⟨rfl, fun x hx => ⟨by decide, (put_le (x := x) hl' (Nat.le_refl p)).1, rfl, (put_le hl' (Nat.le_refl p)).2, ds, rfl, bent_mk (Nat.le_refl p) (by omega) (fun n _ => odd_w hx n)⟩⟩⟩
theorem c_law_bent (X : Defs K mg a_QUOTING a_SIDES a_BadName i_BadName a_BadNumber i_BadNumber a_BadSaying i_BadSaying a_Letter i_Letter q_Letter) (T : Txt K mg a_QUOTING a_SIDES a_BadName i_BadName a_BadNumber i_BadNumber a_BadSaying i_BadSaying a_Letter i_Letter q_Letter) : Cal P w K mg base "_law_bent" 4 ["pen", "value"] [] (SpG K m_law_bent pre_law_bent post_law_bent) := by
  have c_law_draw := c_law_draw (P := P) (w := w) (base := base) X T
  have c_law_odd := c_law_odd (P := P) (w := w) (base := base) X T
  refine cal_WG (N := N_law_bent) (u_law_bent T) X.d_law_bent sc_law_bent (fun ds h => ?_) (fun f cdv A outer s H E hr ng => ⟨_, (pss_cons (ps_set (i := 2) sc_law_bent.nd rfl (Or.inl rfl) (peg_cal c_law_draw hr (by decide) ng rfl (pa_cons (pv 0) (pa_cons (pe_op (op_addUk (K := K)) (pe_callB (call_lenk (K := K)) (by rfl) T.b_len (by decide +kernel) (pa_cons (pv 1) pa_nil)) pe_int) pa_nil))))
 (pss_cons (ps_set (i := 3) sc_law_bent.nd rfl (Or.inl rfl) (peg_cal c_law_draw hr (by decide) ng rfl (pa_cons (pv 0) (pa_cons pe_int pa_nil))))
 (pss_cons (ps_if (PW.pt (pw_or (pt_cmpR (op_eqDk (K := K) (Room.units hr)) (pv 2) (pe_callB (call_lenk (K := K)) (by rfl) T.b_len (by decide +kernel) (pa_cons (pv 1) pa_nil)) (nomark _)) (pw_or1 (pt_cmpR (op_eqDk (K := K) (Room.units hr)) (pv 3) pe_int (nomark _))))) (pss_one (ps_ret (pe_op (op_addUk (K := K)) (pe_op (op_addUk (K := K)) (pe_slice (sl_Uk (K := K)) (pv 1) po_none (po_some (pv 2))) (pe_tup (pa_cons (peg_cal c_law_odd hr (by decide) ng rfl (pa_cons (pv 0) pa_nil)) pa_nil))) (pe_slice (sl_Uk (K := K)) (pv 1) (po_some (pv 2)) po_none)))) pss_nil)
 (pss_cons (ps_if (pt_cmpR (op_eqDk (K := K) (Room.units hr)) (pv 3) pe_int (nomark _)) (pss_one (ps_ret (pe_op (op_addUk (K := K)) (pe_slice (sl_Uk (K := K)) (pv 1) po_none (po_some (pv 2))) (pe_slice (sl_Uk (K := K)) (pv 1) (po_some (pe_op (op_addUk (K := K)) (pv 2) pe_int)) po_none)))) pss_nil)
 (pss_cons (ps_if (PW.pt (pw_and (pt_val (pe_callB (call_isik (K := K)) (by rfl) T.b_isinstance (by decide +kernel) (pa_cons (pe_ix (ix_seqk (K := K)) (pv 1) (pv 2) (fun _ _ => rfl)) (pa_cons (pe_bltn (v := .ty "tuple") (by rfl) T.b_tuple (by decide +kernel) rfl) pa_nil)))) (pw_and (pt_cmpR op_gt (pe_callB (call_lenk (K := K)) (by rfl) T.b_len (by decide +kernel) (pa_cons (pe_ix (ix_seqk (K := K)) (pv 1) (pv 2) (fun _ _ => rfl)) pa_nil)) pe_int (nomark _)) (pw_and1 (pt_cmpR (op_eqDk (K := K) (Room.units hr)) (pv 3) pe_int (nomark _)))))) (pss_cons (ps_set (i := 4) sc_law_bent.nd rfl (Or.inl rfl) (pe_ix (ix_seqk (K := K)) (pv 1) (pv 2) (fun _ _ => rfl)))
 (pss_cons (ps_set (i := 5) sc_law_bent.nd rfl (Or.inl rfl) (peg_cal c_law_draw hr (by decide) ng rfl (pa_cons (pv 0) (pa_cons (pe_callB (call_lenk (K := K)) (by rfl) T.b_len (by decide +kernel) (pa_cons (pv 4) pa_nil)) pa_nil))))
 (pss_cons (ps_if (PW.pt (pw_and (pt_val (pe_callB (call_isik (K := K)) (by rfl) T.b_isinstance (by decide +kernel) (pa_cons (pe_ix (ix_seqk (K := K)) (pv 4) (pv 5) (fun _ _ => rfl)) (pa_cons (pe_bltn (v := .ty "tuple") (by rfl) T.b_tuple (by decide +kernel) rfl) pa_nil)))) (pw_and1 (pt_cmpR (op_eqDk (K := K) (Room.units hr)) (peg_cal c_law_draw hr (by decide) ng rfl (pa_cons (pv 0) (pa_cons pe_int pa_nil))) pe_int (nomark _))))) (pss_cons (ps_set (i := 6) sc_law_bent.nd rfl (Or.inl rfl) (pe_ix (ix_seqk (K := K)) (pv 4) (pv 5) (fun _ _ => rfl)))
 (pss_cons (ps_set (i := 7) sc_law_bent.nd rfl (Or.inl rfl) (peg_cal c_law_draw hr (by decide) ng rfl (pa_cons (pv 0) (pa_cons (pe_op (op_addUk (K := K)) (pe_callB (call_lenk (K := K)) (by rfl) T.b_len (by decide +kernel) (pa_cons (pv 6) pa_nil)) pe_int) pa_nil))))
 (pss_one (ps_set (i := 4) sc_law_bent.nd rfl (Or.inl rfl) (pe_op (op_addUk (K := K)) (pe_op (op_addUk (K := K)) (pe_slice (sl_Uk (K := K)) (pv 4) po_none (po_some (pv 5))) (pe_tup (pa_cons (pe_op (op_addUk (K := K)) (pe_op (op_addUk (K := K)) (pe_slice (sl_Uk (K := K)) (pv 6) po_none (po_some (pv 7))) (pe_tup (pa_cons (peg_cal c_law_odd hr (by decide) ng rfl (pa_cons (pv 0) pa_nil)) pa_nil))) (pe_slice (sl_Uk (K := K)) (pv 6) (po_some (pe_op (op_addUk (K := K)) (pv 7) (peg_cal c_law_draw hr (by decide) ng rfl (pa_cons (pv 0) (pa_cons pe_int pa_nil))))) po_none)) pa_nil))) (pe_slice (sl_Uk (K := K)) (pv 4) (po_some (pe_op (op_addUk (K := K)) (pv 5) pe_int)) po_none)))))) (pss_one (ps_set (i := 4) sc_law_bent.nd rfl (Or.inl rfl) (pe_op (op_addUk (K := K)) (pe_op (op_addUk (K := K)) (pe_slice (sl_Uk (K := K)) (pv 4) po_none (po_some (pv 5))) (pe_tup (pa_cons (peg_cal c_law_odd hr (by decide) ng rfl (pa_cons (pv 0) pa_nil)) pa_nil))) (pe_slice (sl_Uk (K := K)) (pv 4) (po_some (pe_op (op_addUk (K := K)) (pv 5) pe_int)) po_none)))))
 (pss_one (ps_ret (pe_op (op_addUk (K := K)) (pe_op (op_addUk (K := K)) (pe_slice (sl_Uk (K := K)) (pv 1) po_none (po_some (pv 2))) (pe_tup (pa_cons (pv 4) pa_nil))) (pe_slice (sl_Uk (K := K)) (pv 1) (po_some (pe_op (op_addUk (K := K)) (pv 2) pe_int)) po_none))))))) pss_nil)
 (pss_one (ps_ret (pe_op (op_addUk (K := K)) (pe_op (op_addUk (K := K)) (pe_slice (sl_Uk (K := K)) (pv 1) po_none (po_some (pv 2))) (pe_tup (pa_cons (peg_cal c_law_odd hr (by decide) ng rfl (pa_cons (pv 0) pa_nil)) pa_nil))) (pe_slice (sl_Uk (K := K)) (pv 1) (po_some (pe_op (op_addUk (K := K)) (pv 2) pe_int)) po_none))))))))), rfl⟩) (Nat.le_of_eq rfl) fun ds hp => ?_
  · match ds, h with
    | [_], _ => rfl
  · match ds, hp with
    | [value_], hp => exact w_at (u_law_bent T) (v_law_bent T hp) rfl rfl rfl
end
end K23
set_option maxRecDepth 100000
set_option maxHeartbeats 8000000
namespace K23
open PySem L2 PyProof.Rows DL
/-! ### what the law compares -/
theorem eqv3 {a n s a' n' s' : D} : (D.tup [a, n, s]).eqv (.tup [a', n', s']) = (a.eqv a' && (n.eqv n' && (s.eqv s' && true))) := by
  show PyData.eqv (.tuple [a.py, n.py, s.py]) (.tuple [a'.py, n'.py, s'.py]) = _
  simp only [PyData.eqv, PyData.eqvAll]
  rfl
theorem eqv_self {k n : Nat} {d : D} (g : GD k n d) : d.eqv d = true := PySem.SeqAt.eqv_refl _ g.lay
theorem letEq_eq {C C' : Addr} {a n a' n' : D} {l l' : List D} : letEq (letD C a n l) (letD C' a' n' l') = (a.eqv a' && (n.eqv n' && ((D.tup l).eqv (.tup l') && true))) := eqv3
theorem letEq_tup {C : Addr} {a n : D} {l ds : List D} : letEq (letD C a n l) (.tup ds) = false := rfl
theorem letEq_int {C : Addr} {a n : D} {l : List D} {i : Int} : letEq (letD C a n l) (.int i) = false := rfl
theorem num_gd {k : Nat} {i : Int} (h0 : 0 ≤ i) (h1 : i ≤ 10000000000000000000000000000000000000000) : GD k 2000 (.int i) := by
  refine .int ?_ (by decide)
  by_cases z : i.natAbs = 0
  · rw [z]; decide
  · have e : (2 : Nat) ^ 200 = 1606938044258990275541962092341162602522202993782792835301376 := by decide +kernel
    have := (Nat.log2_lt (n := i.natAbs) (k := 200) z).mpr (by omega)
    omega
theorem num_whole {i : Int} (h : 1 ≤ i) : wholeB 1 none (.int i) = true := by
  show (decide (1 ≤ i) && true) = true
  rw [decide_eq_true h]; rfl
theorem nameB_so {a : D} (h : nameB a = true) : ∃ z, a = .str z := by
  unfold nameB at h
  obtain ⟨z, c, cs, rfl, _, _⟩ := madeB_some (Bool.and_eq_true_iff.mp h).1
  exact ⟨z, rfl⟩
theorem sam_strB {m : Nat} {a : D} {k n : Nat} (g : GD k n a) (h : ∃ z, a = .str z) : SamD m a := by
  obtain ⟨z, rfl⟩ := h
  exact sam_str g.strOk
theorem subjB_so {a : D} (h : subjB a = true) : ∃ z, a = .str z := by
  cases a <;> first | exact ⟨_, rfl⟩ | cases h
theorem sideB_so {a : D} (h : sideB a = true) : ∃ z, a = .str z := by
  cases a <;> first | exact ⟨_, rfl⟩ | cases h
theorem wordB_so {a : D} (h : wordB a = true) : ∃ z, a = .str z := by
  unfold wordB at h
  obtain ⟨z, c, cs, rfl, _, _⟩ := madeB_some (Bool.and_eq_true_iff.mp h).1
  exact ⟨z, rfl⟩
theorem wholeB_so {lo : Int} {hi : Option Int} {a : D} (h : wholeB lo hi a = true) : ∃ i, a = .int i := by
  cases a <;> first | exact ⟨_, rfl⟩ | cases h
theorem sam_cons {n : Nat} {d : D} {ds : List D} (h : SamD n d) (k : ∀ e ∈ ds, SamD n e) : ∀ e ∈ d :: ds, SamD n e := fun e he => by
  rcases List.mem_cons.mp he with rfl | z
  · exact h
  · exact k e z
theorem sam_nil {n : Nat} : ∀ e ∈ ([] : List D), SamD n e := fun _ h => nomatch h
theorem sam_piece {k n : Nat} {d : D} (g : GD k n d) (h : pieceB d = true) : SamD 2 d := by
  unfold pieceB at h
  split at h
  · rename_i w l
    have gs := g.tups.mem
    have gw : SamD 1 (.str w) := sam_str (gs _ List.mem_cons_self).strOk
    unfold pieceT at h
    split at h
    · rename_i a
      have h2 := (Bool.and_eq_true_iff.mp h).2
      exact sam_tup (by simp) (sam_cons gw (sam_cons (sam_strB (gs a (by simp)) (wordB_so h2)) sam_nil))
    · rename_i a b
      have h2 := Bool.and_eq_true_iff.mp (Bool.and_eq_true_iff.mp h).2
      exact sam_tup (by simp) (sam_cons gw (sam_cons (sam_strB (gs a (by simp)) (nameB_so h2.1)) (sam_cons (sam_strB (gs b (by simp)) (nameB_so h2.2)) sam_nil)))
    · rename_i a b i
      have h2 := Bool.and_eq_true_iff.mp (Bool.and_eq_true_iff.mp h).2
      have h3 := Bool.and_eq_true_iff.mp h2.1
      obtain ⟨j, rfl⟩ := wholeB_so h2.2
      exact sam_tup (by simp) (sam_cons gw (sam_cons (sam_strB (gs a (by simp)) (nameB_so h3.1)) (sam_cons (sam_strB (gs b (by simp)) (nameB_so h3.2)) (sam_cons sam_int sam_nil))))
    · cases h
  · cases h
theorem sam_body {k n : Nat} {d : D} (g : GD k n d) (h : bodyB d = true) : SamD 3 d := by
  unfold bodyB at h
  split at h
  · rename_i ds
    have h2 := Bool.and_eq_true_iff.mp h
    have hl := of_decide_eq_true h2.1
    exact sam_tup (by omega) fun d hd => sam_piece (g.tups.mem d hd) (List.all_eq_true.mp h2.2 d hd)
  · cases h
theorem sam_saying {d : D} (g : GV d) (h : sayingB d = true) : ∃ l, d.its = some l ∧ SamD 4 (.tup l) := by
  unfold sayingB at h
  split at h
  · rename_i w l e
    refine ⟨_, e, ?_⟩
    have gs := g.its e
    have gw : SamD 3 (.str w) := sam_str (gs _ List.mem_cons_self).strOk
    unfold sayT at h
    split at h
    · rename_i a
      have h2 := (Bool.and_eq_true_iff.mp h).2
      exact sam_tup (by simp) (sam_cons gw (sam_cons (sam_strB (gs a (by simp)) (nameB_so h2)) sam_nil))
    · rename_i a b
      split at h
      · have h2 := Bool.and_eq_true_iff.mp h
        obtain ⟨j, rfl⟩ := wholeB_so h2.2
        exact sam_tup (by simp) (sam_cons gw (sam_cons (sam_strB (gs a (by simp)) (nameB_so h2.1)) (sam_cons sam_int sam_nil)))
      · split at h
        · have h2 := Bool.and_eq_true_iff.mp h
          obtain ⟨j, rfl⟩ : ∃ j, b = .bl j := by
            have := h2.2
            cases b <;> first | exact ⟨_, rfl⟩ | cases this
          exact sam_tup (by simp) (sam_cons gw (sam_cons (sam_strB (gs a (by simp)) (nameB_so h2.1)) (sam_cons sam_bl sam_nil)))
        · cases h
    · rename_i a b c
      split at h
      · have h2 := Bool.and_eq_true_iff.mp h
        have h3 := Bool.and_eq_true_iff.mp h2.2
        exact sam_tup (by simp) (sam_cons gw (sam_cons (sam_strB (gs a (by simp)) (nameB_so h2.1)) (sam_cons (sam_strB (gs b (by simp)) (subjB_so h3.1)) (sam_cons (sam_strB (gs c (by simp)) (sideB_so h3.2)) sam_nil))))
      · split at h
        · have h2 := Bool.and_eq_true_iff.mp h
          have h3 := Bool.and_eq_true_iff.mp h2.2
          exact sam_tup (by simp) (sam_cons gw (sam_cons (sam_strB (gs a (by simp)) (nameB_so h2.1)) (sam_cons (sam_strB (gs b (by simp)) (nameB_so h3.1)) (sam_cons (sam_body (gs c (by simp)) h3.2) sam_nil))))
        · cases h
    · cases h
  · cases h
theorem say_same {l : List D} : sayingB (.lst l) = sayingB (.tup l) := rfl
/-- what is due, by its shape -/
theorem due_shape {a n s : D} {l : List D} (ga : GD 5 5000 a) (gn : GD 5 5000 n) (gs : GD 9 1300000 s) (gl : GD 9 1300000 (.tup l)) (e : s.its = some l ∨ s.its = none) :
    (nameB a = true ∧ wholeB 1 none n = true ∧ sayingB s = true ∧ s.its = some l ∧ dueD a n s = .tup [.str "letter", .tup [a, n, .tup l]] ∧ GD 11 1900000 (.tup [a, n, .tup l])) ∨ (∃ w y, dueD a n s = .tup [.str w, y] ∧ ¬ w = "letter" ∧ PyData.strOk w = true ∧ GD 11 1900000 y) := by
  unfold dueD
  by_cases h1 : nameB a = true
  · rw [if_pos h1]
    by_cases h2 : wholeB 1 none n = true
    · rw [if_pos h2]
      by_cases h3 : sayingB s = true
      · rw [if_pos h3]
        obtain ⟨q, hq⟩ := its_of_saying h3
        have hl : s.its = some l := by
          rcases e with e | e
          · exact e
          · rw [hq] at e; cases e
        refine .inl ⟨h1, h2, h3, hl, by rw [hl]; rfl, ?_⟩
        exact gdT (k := 9) (n := 1320000) ((GDs.cons (ga.mono (k' := 9) (by decide) (Nat.le_refl _)) (GDs.cons (gn.mono (k' := 9) (by decide) (Nat.le_refl _)) (GDs.cons gl (GDs.nil (n := 0))))).mono (Nat.le_refl _) (by decide)) (by decide) (by decide)
      · rw [if_neg h3]
        exact .inr ⟨_, _, rfl, by decide +kernel, by decide +kernel, gs.mono (by decide) (by decide)⟩
    · rw [if_neg h2]
      refine .inr ⟨_, _, rfl, by decide +kernel, by decide +kernel, ?_⟩
      exact gdT (k := 5) (n := 10000) ((GDs.cons (k := 5) (n := 100) gdS (GDs.cons gn (GDs.nil (n := 0)))).mono (Nat.le_refl _) (by decide)) (by decide) (by decide)
  · rw [if_neg h1]
    exact .inr ⟨_, _, rfl, by decide +kernel, by decide +kernel, ga.mono (by decide) (by decide)⟩
end K23
set_option maxRecDepth 100000
set_option maxHeartbeats 8000000
namespace K23
open PySem L2 PyProof.Rows DL
section
variable {P : Program} {w : World} {K : PySem.W.Frag} {mg : Str → Option Value} {base : Heap} {a_QUOTING a_SIDES a_BadName i_BadName a_BadNumber i_BadNumber a_BadSaying i_BadSaying a_Letter i_Letter q_Letter : Addr}
local macro_rules | `(tactic| walk_at "w") => `(tactic| simp only [DL.w_var, DL.w_int, DL.w_bl, DL.w_str, DL.w_non, DL.w_ktup, DL.w_op, DL.w_neg, DL.w_chain, DL.w_nil, DL.w_cons, DL.w_tup, DL.w_lst, DL.w_tst, DL.w_tb, DL.w_not, DL.w_yes, DL.w_and, DL.w_or, DL.w_andV, DL.w_orV, DL.w_notV, DL.w_ite, DL.w_none, DL.w_some, DL.w_sl, DL.w_cb, DL.w_isi, DL.w_isi2, DL.w_call, DL.w_callD, DL.w_callX, DL.w_callG, DL.w_split, DL.w_dget, DL.w_knil, DL.w_kcons, DL.w_dispK, DL.w_seqI, DL.w_rng1, DL.w_rng2, DL.w_enum, DL.w_zip, DL.w_lc, DL.w_borrow, DL.w_up, DL.w_popAt, DL.w_next, DL.w_brk, DL.w_cont, DL.w_seq, DL.w_ret, DL.w_retN, DL.w_asg, DL.w_asgT, DL.w_asgOwn, DL.w_drop, DL.w_ifS, DL.w_append, DL.w_raiseO, DL.w_xf, DL.w_tryAsg, DL.w_mkX, DL.w_fldR, DL.w_fld, DL.w_isC, DL.q_eqO, DL.q_neO, DL.w_tryMk, DL.slfAt_0, DL.slfAt_s, DL.w_asgLend, DL.lendAt_o, DL.lendAt_d, DL.lendAt_s, DL.w_borrowD, DL.w_asgIteL, DL.w_frz, frzAt_0, frzAt_d, frzAt_u, frzAt_s, DL.w_forS, DL.w_par, DL.w_parLE,
  DL.q_int, DL.q_cmp, DL.q_intC, DL.q_addI, DL.q_addS, DL.q_addT, DL.q_addL, DL.q_mulI, DL.q_mulS, DL.q_mulL, DL.q_eq, DL.q_ne, DL.q_isN, DL.q_isB, DL.q_notN, DL.q_inT, DL.q_inL, DL.q_inS, DL.q_ninT, DL.q_ninL, DL.q_ninS, DL.q_ixL, DL.q_ixT, DL.q_ixS, DL.n_len, DL.n_list, DL.n_tuple, DL.n_all, DL.n_any, DL.n_sum, DL.n_sortedS, DL.n_min2, DL.n_max2, DL.n_int1, DL.n_strI, DL.n_repr, DL.g_name, DL.is_name, cut_tup, cut_lst,  isi_str, isi_int, isi_bool, isi_tuple, isi_list,
  datAt_0, datAt_s, ownAt_0, ownAt_s, penIs_0, penIs_s, setD_nil, setD_cons, wipeG, List.set_cons_zero, List.set_cons_succ, List.set_nil, List.map_cons, List.map_nil, List.cons_append, List.nil_append,
  D.bl.injEq, D.int.injEq, D.str.injEq, exists_eq_left', exists_eq_left, exists_and_left, exists_eq', exists_eq, true_and, and_true, true_imp_iff, false_imp_iff, Bool.true_eq_false, Bool.false_eq_true, forall_const, Bool.not_true, Bool.not_false, List.length_cons, List.length_nil, eqv_str, eqv_int, ok_int, ok_bl, ok_non, forall_eq, atI_0, atI_1, atI_2, atI_3, List.getElem?_cons_zero, List.getElem?_cons_succ, List.getElem?_nil, Option.some.injEq, Sk.own.injEq, len_tup, len_lst, its_tup, its_lst, itemsOf_tup, itemsOf_lst, itemsOf_str, isS_str, isT_tup, isL_lst, isI_int, isB_bl, builtin_str, builtin_tup, builtin_lst, builtin_int, builtin_bl, builtin_non, D.sign_one, List.all_cons, List.all_nil, Bool.and_true])

theorem c_law_pen (X : Defs K mg a_QUOTING a_SIDES a_BadName i_BadName a_BadNumber i_BadNumber a_BadSaying i_BadSaying a_Letter i_Letter q_Letter) (T : Txt K mg a_QUOTING a_SIDES a_BadName i_BadName a_BadNumber i_BadNumber a_BadSaying i_BadSaying a_Letter i_Letter q_Letter) : Cal P w K mg base "_law_pen" 1 ["script"] [] (SpPen K) := by
  refine cal_raw (N := N_law_pen) X.d_law_pen sc_law_pen (fun vs H Q E h => ?_) (fun f cdv A outer s H vs Q E hr ng h => ?_)
  · obtain ⟨a, ns, rfl, _⟩ := h; rfl
  · obtain ⟨a, ns, rfl, hs, hl, q⟩ := h
    exact ⟨tPenMake K, (pss_cons (ps_set (i := 1) sc_law_pen.nd rfl (Or.inl rfl) pe_int)
 (pss_cons (ps_for PassesOwn.never rfl (pi_seqk (K := K) (pv 0)) (pg_name (i := 2) sc_law_pen.nd rfl (Or.inl rfl)) (pss_one (ps_set (i := 1) sc_law_pen.nd rfl (Or.inl rfl) (pe_op op_mod (pe_callTy call_int1 (by rfl) T.b_int (by decide +kernel) (pa_cons (pe_op (op_addUk (K := K)) (pe_op (op_mulUk (K := K)) (pv 1) pe_int) (pv 2)) pa_nil)) pe_int))))
 (pss_one (ps_ret (pe_disp (pps_cons pe_str (pe_callTy (call_list_ofk (K := K)) (by rfl) T.b_list (by decide +kernel) (pa_cons (pv 0) pa_nil)) (pps_cons pe_str pe_int (pps_cons pe_str pe_int (pps_cons pe_str pe_int (pps_cons pe_str (pv 1) pps_nil))))) (by rfl) (by rfl) (fun z => by cases z) (by decide)))))), penMake_ok hs q⟩
theorem post_inv {a n s : D} {l es : List D} (h : post_Letter [a, n, s] es) (e : s.its = some l) : es = [a, n, .tup l] := by
  obtain ⟨_, _, _, q, e2, rfl⟩ := h
  rw [e] at e2; cases e2; rfl
theorem no_exc {a n s : D} (h1 : nameB a = true) (h2 : wholeB 1 none n = true) (h3 : sayingB s = true) : ∀ C' fs, exc_Letter a_QUOTING a_SIDES a_BadName i_BadName a_BadNumber i_BadNumber a_BadSaying i_BadSaying a_Letter i_Letter q_Letter [a, n, s] C' fs → noX C' fs := fun C' fs hx => by
  rcases hx with ⟨h, _⟩ | ⟨_, h, _⟩ | ⟨_, _, h, _⟩
  · rw [h1] at h; cases h
  · rw [h2] at h; cases h
  · rw [h3] at h; cases h
theorem let_ok {C : Addr} {a : D} {i : Int} {l : List D} (ga : TxD true 12 a) (i0 : 0 ≤ i) (i1 : i ≤ 10000000000000000000000000000000000000000) (gl : GDs 5 200000 l) : LetOk C (letD C a (.int i) l) :=
  ⟨_, _, _, rfl, (ga.so.gd (k := 5)).mono (by decide) (by decide), (num_gd (k := 5) i0 i1).mono (by decide) (by decide), gl.tup.mono (by decide) (by decide)⟩
theorem let_gv {a : D} {i : Int} {l : List D} (ga : TxD true 12 a) (i0 : 0 ≤ i) (i1 : i ≤ 10000000000000000000000000000000000000000) (gl : GDs 5 200000 l) : GV a ∧ GV (.int i) ∧ GV (.tup l) :=
  ⟨(ga.so.gd (k := 5)).mono (by decide) (by decide), (num_gd (k := 5) i0 i1).mono (by decide) (by decide), gl.tup.mono (by decide) (by decide)⟩
theorem txd_x {z : Str} (t : TxD true 12 (.str z)) (h : z.length < 12) : TxD true 12 (.str (z ++ "x")) := by
  obtain ⟨_, e, h1, h2, h3⟩ := t
  cases e
  obtain ⟨c, cs, e, hc⟩ := h3 rfl
  have l1 : ("x" : Str).length = 1 := by decide +kernel
  have e1 : ("x" : Str).cps.toList = [120] := by decide +kernel
  have i1 : 120 ∈ sLF.cps.toList := by decide +kernel
  refine ⟨_, rfl, by rw [str_len_add, l1]; omega, fun c hm => ?_, fun _ => ⟨c, cs ++ [120], ?_, hc⟩⟩
  · rw [cps_add, e1] at hm
    rcases List.mem_append.mp hm with q | q
    · exact h2 c q
    · rw [List.mem_singleton.mp q]; exact i1
  · rw [cps_add, e1, e]; rfl
theorem due_head {a n s : D} : ∃ w y, dueD a n s = .tup [.str w, y] ∧ PyData.strOk w = true := by
  unfold dueD
  split
  · split
    · split
      · exact ⟨_, _, rfl, by decide +kernel⟩
      · exact ⟨_, _, rfl, by decide +kernel⟩
    · exact ⟨_, _, rfl, by decide +kernel⟩
  · exact ⟨_, _, rfl, by decide +kernel⟩
def u_law_32 (T : Txt K mg a_QUOTING a_SIDES a_BadName i_BadName a_BadNumber i_BadNumber a_BadSaying i_BadSaying a_Letter i_Letter q_Letter) : WS K L2.E0 := (WS.ret (WM.up (WE.op O2.eq (WE.op O2.ix (WE.call pre_law_made post_law_made (WA.cons (WE.op O2.ix (WE.var 2) (WE.int 0)) (WA.cons (WE.int 1) (WA.cons (WE.var 15) WA.nil)))) (WE.int 0)) (WE.op O2.ix (WE.call pre_law_due post_law_due (WA.cons (WE.op O2.ix (WE.var 2) (WE.int 0)) (WA.cons (WE.int 1) (WA.cons (WE.var 15) WA.nil)))) (WE.int 0)))))
def u_law_31 (T : Txt K mg a_QUOTING a_SIDES a_BadName i_BadName a_BadNumber i_BadNumber a_BadSaying i_BadSaying a_Letter i_Letter q_Letter) : WS K L2.E0 := (WS.seq (WS.asg 15 (WM.up (WE.callG m_law_odd pre_law_odd post_law_odd 1 WA.nil)))
 (u_law_32 T))
def u_law_29 (T : Txt K mg a_QUOTING a_SIDES a_BadName i_BadName a_BadNumber i_BadNumber a_BadSaying i_BadSaying a_Letter i_Letter q_Letter) : WS K L2.E0 := (WS.ifS (WT.not (WT.b (WE.call (pre_law_same 5) post_law_same (WA.cons (WE.fldR "saying" (WE.var 14)) (WA.cons (WE.op O2.ix (WE.op O2.ix (WE.var 12) (WE.int 1)) (WE.int 2)) WA.nil)))))
 (WS.ret (WM.up (WE.bl false)))
 WS.next)
def u_law_28 (T : Txt K mg a_QUOTING a_SIDES a_BadName i_BadName a_BadNumber i_BadNumber a_BadSaying i_BadSaying a_Letter i_Letter q_Letter) : WS K L2.E0 := (WS.seq (WS.append 11 (WM.up (WE.str "x")))
 (u_law_29 T))
def u_law_27 (T : Txt K mg a_QUOTING a_SIDES a_BadName i_BadName a_BadNumber i_BadNumber a_BadSaying i_BadSaying a_Letter i_Letter q_Letter) : WS K L2.E0 := (WS.seq (WS.asgLend 14 11 (WE.mkX a_Letter ["account", "number", "saying"] pre_Letter post_Letter (exc_Letter a_QUOTING a_SIDES a_BadName i_BadName a_BadNumber i_BadNumber a_BadSaying i_BadSaying a_Letter i_Letter q_Letter) (WA.cons (WE.var 5) (WA.cons (WE.var 6) (WA.cons (WE.var 11) WA.nil)))))
 (u_law_28 T))
def u_law_26 (T : Txt K mg a_QUOTING a_SIDES a_BadName i_BadName a_BadNumber i_BadNumber a_BadSaying i_BadSaying a_Letter i_Letter q_Letter) : WS K L2.E0 := (WS.ifS (WT.and (WT.b (WE.borrowD 11 (WE.isi "list" (WE.var 11)))) (WT.tst (WE.op O2.eq (WE.op O2.ix (WE.var 12) (WE.int 0)) (WE.str "letter"))))
 (u_law_27 T)
 WS.next)
def u_law_24 (T : Txt K mg a_QUOTING a_SIDES a_BadName i_BadName a_BadNumber i_BadNumber a_BadSaying i_BadSaying a_Letter i_Letter q_Letter) : WS K L2.E0 := (WS.seq (WS.ifS (WT.or (WT.tst (WE.op O2.ne (WE.op O2.ix (WE.var 13) (WE.int 0)) (WE.op O2.ix (WE.var 12) (WE.int 0)))) (WT.not (WT.b (WE.call (pre_law_alike 12) post_law_alike (WA.cons (WE.op O2.ix (WE.var 13) (WE.int 1)) (WA.cons (WE.op O2.ix (WE.var 12) (WE.int 1)) WA.nil))))))
 (WS.ret (WM.up (WE.bl false)))
 WS.next)
 (u_law_26 T))
def u_law_23 (T : Txt K mg a_QUOTING a_SIDES a_BadName i_BadName a_BadNumber i_BadNumber a_BadSaying i_BadSaying a_Letter i_Letter q_Letter) : WS K L2.E0 := (WS.seq (WS.asgLend 13 11 (WE.call pre_law_made post_law_made (WA.cons (WE.var 5) (WA.cons (WE.var 6) (WA.cons (WE.var 11) WA.nil)))))
 (u_law_24 T))
def u_law_22 (T : Txt K mg a_QUOTING a_SIDES a_BadName i_BadName a_BadNumber i_BadNumber a_BadSaying i_BadSaying a_Letter i_Letter q_Letter) : WS K L2.E0 := (WS.seq (WS.asgLend 12 11 (WE.call pre_law_due post_law_due (WA.cons (WE.var 5) (WA.cons (WE.var 6) (WA.cons (WE.var 11) WA.nil)))))
 (u_law_23 T))
def u_law_21 (T : Txt K mg a_QUOTING a_SIDES a_BadName i_BadName a_BadNumber i_BadNumber a_BadSaying i_BadSaying a_Letter i_Letter q_Letter) : WS K L2.E0 := (WS.seq (WS.asgIteL 11 (WT.tst (WE.op O2.eq (WE.callG m_law_draw pre_law_draw post_law_draw 1 (WA.cons (WE.int 2) WA.nil)) (WE.int 0))) (WE.var 7) (WE.var 7))
 (u_law_22 T))
def u_law_19 (T : Txt K mg a_QUOTING a_SIDES a_BadName i_BadName a_BadNumber i_BadNumber a_BadSaying i_BadSaying a_Letter i_Letter q_Letter) : WS K L2.E0 := (WS.seq (WS.ifS (WT.tst (WE.op (O2.cmp fun i j => decide (j < i)) (WE.callG m_law_draw pre_law_draw post_law_draw 1 (WA.cons (WE.int 3) WA.nil)) (WE.int 0)))
 (WS.asg 7 (WM.up (WE.callG m_law_bent pre_law_bent post_law_bent 1 (WA.cons (WE.var 7) WA.nil))))
 WS.next)
 (u_law_21 T))
def u_law_17 (T : Txt K mg a_QUOTING a_SIDES a_BadName i_BadName a_BadNumber i_BadNumber a_BadSaying i_BadSaying a_Letter i_Letter q_Letter) : WS K L2.E0 := (WS.seq (WS.ifS (WT.tst (WE.op O2.eq (WE.callG m_law_draw pre_law_draw post_law_draw 1 (WA.cons (WE.int 3) WA.nil)) (WE.int 0)))
 (WS.asg 6 (WM.up (WE.callG m_law_odd pre_law_odd post_law_odd 1 WA.nil)))
 WS.next)
 (u_law_19 T))
def u_law_15 (T : Txt K mg a_QUOTING a_SIDES a_BadName i_BadName a_BadNumber i_BadNumber a_BadSaying i_BadSaying a_Letter i_Letter q_Letter) : WS K L2.E0 := (WS.seq (WS.ifS (WT.tst (WE.op O2.eq (WE.callG m_law_draw pre_law_draw post_law_draw 1 (WA.cons (WE.int 3) WA.nil)) (WE.int 0)))
 (WS.asg 5 (WM.up (WE.callG m_law_odd pre_law_odd post_law_odd 1 WA.nil)))
 WS.next)
 (u_law_17 T))
def u_law_13 (T : Txt K mg a_QUOTING a_SIDES a_BadName i_BadName a_BadNumber i_BadNumber a_BadSaying i_BadSaying a_Letter i_Letter q_Letter) : WS K L2.E0 := (WS.seq (WS.ifS (WT.tst (WE.op (O2.eqO a_Letter (pre_Letter_eq a_QUOTING a_SIDES a_BadName i_BadName a_BadNumber i_BadNumber a_BadSaying i_BadSaying a_Letter i_Letter q_Letter) (post_Letter_eq a_QUOTING a_SIDES a_BadName i_BadName a_BadNumber i_BadNumber a_BadSaying i_BadSaying a_Letter i_Letter q_Letter)) (WE.var 8) (WE.mkX a_Letter ["account", "number", "saying"] pre_Letter post_Letter (exc_Letter a_QUOTING a_SIDES a_BadName i_BadName a_BadNumber i_BadNumber a_BadSaying i_BadSaying a_Letter i_Letter q_Letter) (WA.cons (WE.ite (WT.tst (WE.op (O2.cmp fun i j => decide (i < j)) (WE.cb ON.len (WA.cons (WE.var 5) WA.nil)) (WE.int 12))) (WE.op O2.add (WE.var 5) (WE.str "x")) (WE.str "x")) (WA.cons (WE.var 6) (WA.cons (WE.var 7) WA.nil))))))
 (WS.ret (WM.up (WE.bl false)))
 WS.next)
 (u_law_15 T))
def u_law_11 (T : Txt K mg a_QUOTING a_SIDES a_BadName i_BadName a_BadNumber i_BadNumber a_BadSaying i_BadSaying a_Letter i_Letter q_Letter) : WS K L2.E0 := (WS.seq (WS.ifS (WT.or (WT.tst (WE.op O2.ne (WE.op (O2.eqO a_Letter (pre_Letter_eq a_QUOTING a_SIDES a_BadName i_BadName a_BadNumber i_BadNumber a_BadSaying i_BadSaying a_Letter i_Letter q_Letter) (post_Letter_eq a_QUOTING a_SIDES a_BadName i_BadName a_BadNumber i_BadNumber a_BadSaying i_BadSaying a_Letter i_Letter q_Letter)) (WE.var 8) (WE.mkX a_Letter ["account", "number", "saying"] pre_Letter post_Letter (exc_Letter a_QUOTING a_SIDES a_BadName i_BadName a_BadNumber i_BadNumber a_BadSaying i_BadSaying a_Letter i_Letter q_Letter) (WA.cons (WE.var 5) (WA.cons (WE.var 6) (WA.cons (WE.var 10) WA.nil))))) (WE.op O2.eq (WE.var 7) (WE.var 10)))) (WT.tst (WE.op (O2.eqO a_Letter (pre_Letter_eq a_QUOTING a_SIDES a_BadName i_BadName a_BadNumber i_BadNumber a_BadSaying i_BadSaying a_Letter i_Letter q_Letter) (post_Letter_eq a_QUOTING a_SIDES a_BadName i_BadName a_BadNumber i_BadNumber a_BadSaying i_BadSaying a_Letter i_Letter q_Letter)) (WE.var 8) (WE.mkX a_Letter ["account", "number", "saying"] pre_Letter post_Letter (exc_Letter a_QUOTING a_SIDES a_BadName i_BadName a_BadNumber i_BadNumber a_BadSaying i_BadSaying a_Letter i_Letter q_Letter) (WA.cons (WE.var 5) (WA.cons (WE.op O2.add (WE.var 6) (WE.int 1)) (WA.cons (WE.var 7) WA.nil)))))))
 (WS.ret (WM.up (WE.bl false)))
 WS.next)
 (u_law_13 T))
def u_law_10 (T : Txt K mg a_QUOTING a_SIDES a_BadName i_BadName a_BadNumber i_BadNumber a_BadSaying i_BadSaying a_Letter i_Letter q_Letter) : WS K L2.E0 := (WS.seq (WS.asg 10 (WM.up (WE.callG m_law_any_saying pre_law_any_saying post_law_any_saying 1 (WA.cons (WE.var 3) (WA.cons (WE.var 2) WA.nil)))))
 (u_law_11 T))
def u_law_8 (T : Txt K mg a_QUOTING a_SIDES a_BadName i_BadName a_BadNumber i_BadNumber a_BadSaying i_BadSaying a_Letter i_Letter q_Letter) : WS K L2.E0 := (WS.seq (WS.ifS (WT.or (WT.tst (WE.op (O2.neO a_Letter (pre_Letter_eq a_QUOTING a_SIDES a_BadName i_BadName a_BadNumber i_BadNumber a_BadSaying i_BadSaying a_Letter i_Letter q_Letter) (post_Letter_eq a_QUOTING a_SIDES a_BadName i_BadName a_BadNumber i_BadNumber a_BadSaying i_BadSaying a_Letter i_Letter q_Letter)) (WE.var 8) (WE.var 9))) (WT.or (WT.not (WT.tst (WE.op (O2.eqO a_Letter (pre_Letter_eq a_QUOTING a_SIDES a_BadName i_BadName a_BadNumber i_BadNumber a_BadSaying i_BadSaying a_Letter i_Letter q_Letter) (post_Letter_eq a_QUOTING a_SIDES a_BadName i_BadName a_BadNumber i_BadNumber a_BadSaying i_BadSaying a_Letter i_Letter q_Letter)) (WE.var 8) (WE.var 9)))) (WT.or (WT.tst (WE.op (O2.eqO a_Letter (pre_Letter_eq a_QUOTING a_SIDES a_BadName i_BadName a_BadNumber i_BadNumber a_BadSaying i_BadSaying a_Letter i_Letter q_Letter) (post_Letter_eq a_QUOTING a_SIDES a_BadName i_BadName a_BadNumber i_BadNumber a_BadSaying i_BadSaying a_Letter i_Letter q_Letter)) (WE.var 8) (WE.tup (WA.cons (WE.var 5) (WA.cons (WE.var 6) (WA.cons (WE.var 7) WA.nil)))))) (WT.tst (WE.op (O2.eqO a_Letter (pre_Letter_eq a_QUOTING a_SIDES a_BadName i_BadName a_BadNumber i_BadNumber a_BadSaying i_BadSaying a_Letter i_Letter q_Letter) (post_Letter_eq a_QUOTING a_SIDES a_BadName i_BadName a_BadNumber i_BadNumber a_BadSaying i_BadSaying a_Letter i_Letter q_Letter)) (WE.var 8) (WE.int 5))))))
 (WS.ret (WM.up (WE.bl false)))
 WS.next)
 (u_law_10 T))
def u_law_7 (T : Txt K mg a_QUOTING a_SIDES a_BadName i_BadName a_BadNumber i_BadNumber a_BadSaying i_BadSaying a_Letter i_Letter q_Letter) : WS K L2.E0 := (WS.seq (WS.par 8 9 (WE.mkX a_Letter ["account", "number", "saying"] pre_Letter post_Letter (exc_Letter a_QUOTING a_SIDES a_BadName i_BadName a_BadNumber i_BadNumber a_BadSaying i_BadSaying a_Letter i_Letter q_Letter) (WA.cons (WE.var 5) (WA.cons (WE.var 6) (WA.cons (WE.var 7) WA.nil)))) (WE.mkX a_Letter ["account", "number", "saying"] pre_Letter post_Letter (exc_Letter a_QUOTING a_SIDES a_BadName i_BadName a_BadNumber i_BadNumber a_BadSaying i_BadSaying a_Letter i_Letter q_Letter) (WA.cons (WE.var 5) (WA.cons (WE.var 6) (WA.cons (WE.cb ON.list (WA.cons (WE.var 7) WA.nil)) WA.nil)))))
 (u_law_8 T))
def u_law_6 (T : Txt K mg a_QUOTING a_SIDES a_BadName i_BadName a_BadNumber i_BadNumber a_BadSaying i_BadSaying a_Letter i_Letter q_Letter) : WS K L2.E0 := (WS.seq (WS.asg 7 (WM.up (WE.callG m_law_any_saying pre_law_any_saying post_law_any_saying 1 (WA.cons (WE.var 3) (WA.cons (WE.var 2) WA.nil)))))
 (u_law_7 T))
def u_law_5 (T : Txt K mg a_QUOTING a_SIDES a_BadName i_BadName a_BadNumber i_BadNumber a_BadSaying i_BadSaying a_Letter i_Letter q_Letter) : WS K L2.E0 := (WS.seq (WS.par 5 6 (WE.callG m_law_pick pre_law_pick post_law_pick 1 (WA.cons (WE.var 2) WA.nil)) (WE.callG m_law_pick pre_law_pick post_law_pick 1 (WA.cons (WE.lst (WA.cons (WE.int 1) (WA.cons (WE.int 2) (WA.cons (WE.int 9) (WA.cons (WE.op (O2.intC CPow fun i j => i ^ j.toNat) (WE.int 10) (WE.int 39)) (WA.cons (WE.op O2.add (WE.int 1) (WE.callG m_law_draw pre_law_draw post_law_draw 1 (WA.cons (WE.op (O2.intC CPow fun i j => i ^ j.toNat) (WE.int 10) (WE.int 30)) WA.nil))) WA.nil)))))) WA.nil)))
 (u_law_6 T))
def u_law_4 (T : Txt K mg a_QUOTING a_SIDES a_BadName i_BadName a_BadNumber i_BadNumber a_BadSaying i_BadSaying a_Letter i_Letter q_Letter) : WS K L2.E0 := (WS.seq (WS.forS (WI.rng1 (WA.cons (WE.int 6) WA.nil)) (WG.name 4)
 (u_law_5 T) 64)
 (u_law_31 T))
def u_law_3 (T : Txt K mg a_QUOTING a_SIDES a_BadName i_BadName a_BadNumber i_BadNumber a_BadSaying i_BadSaying a_Letter i_Letter q_Letter) : WS K L2.E0 := (WS.seq (WS.asg 3 (WM.up (WE.callG m_law_some_forum pre_law_some_forum post_law_some_forum 1 (WA.cons (WE.var 2) WA.nil))))
 (u_law_4 T))
def u_law (T : Txt K mg a_QUOTING a_SIDES a_BadName i_BadName a_BadNumber i_BadNumber a_BadSaying i_BadSaying a_Letter i_Letter q_Letter) : WS K L2.E0 := (WS.seq (WS.asg 2 (WM.up (WE.callG m_law_names pre_law_names post_law_names 1 (WA.cons (WE.int 4) WA.nil))))
 (u_law_3 T))
theorem lw_28 {nm rw a n : D} {l ds : List D} {s4 s5 s6 s7 s8 s9 s10 s13 s15 : Sk} {W : Wh} (T : Txt K mg a_QUOTING a_SIDES a_BadName i_BadName a_BadNumber i_BadNumber a_BadSaying i_BadSaying a_Letter i_Letter q_Letter) (hs : SamD 4 (.tup l)) (hl : ds.length < 1000000) (k : ∀ s11 s14, W.N [.un, .pen, .dat nm, .dat rw, s4, s5, s6, s7, s8, s9, s10, s11, .dat (.tup [.str "letter", .tup [a, n, .tup l]]), s13, s14, s15]) : (u_law_28 T).w noX [.un, .pen, .dat nm, .dat rw, s4, s5, s6, s7, s8, s9, s10, .own ds, .dat (.tup [.str "letter", .tup [a, n, .tup l]]), s13, .dat (letD a_Letter a n l), s15] W := by
  unfold u_law_28 letD
  walk_at "w"
  unfold u_law_29
  walk_at "w"
  exact ⟨hl, _, _, _, rfl, T.l_Letter.cl, T.l_Letter.na _ (by simp), _, lk_s, ⟨rfl, hs⟩, k _ _⟩
theorem lw_27 {nm rw a n : D} {ds : List D} {s4 s7 s8 s9 s10 s13 s14 s15 : Sk} {W : Wh} (T : Txt K mg a_QUOTING a_SIDES a_BadName i_BadName a_BadNumber i_BadNumber a_BadSaying i_BadSaying a_Letter i_Letter q_Letter) (h1 : nameB a = true) (h2 : wholeB 1 none n = true) (h3 : sayingB (.lst ds) = true) (ga : GV a) (gn : GV n) (gs : GV (.lst ds)) (hs : SamD 4 (.tup ds)) (hl : ds.length < 1000000) (k : ∀ s11 s14, W.N [.un, .pen, .dat nm, .dat rw, s4, .dat a, .dat n, s7, s8, s9, s10, s11, .dat (.tup [.str "letter", .tup [a, n, .tup ds]]), s13, s14, s15]) :
    (u_law_27 T).w noX [.un, .pen, .dat nm, .dat rw, s4, .dat a, .dat n, s7, s8, s9, s10, .own ds, .dat (.tup [.str "letter", .tup [a, n, .tup ds]]), s13, s14, s15] W := by
  unfold u_law_27
  walk_at "w"
  refine .inl ⟨⟨ga, gn, gs⟩, fun es hq => ?_, fun C' fs hx => ?_⟩
  · obtain ⟨_, _, _, l, e, rfl⟩ := hq
    cases e
    obtain ⟨z, rfl⟩ := nameB_so h1
    obtain ⟨i, rfl⟩ := wholeB_so h2
    have nl : noLst (D.tup ds) = true := noLst_sam hs
    refine ⟨?_, lw_28 T hs hl k⟩
    show (true && (true && (noLst (D.tup ds) && true))) = true
    rw [nl]; rfl
  · rcases hx with ⟨h, _⟩ | ⟨_, h, _⟩ | ⟨_, _, h, _⟩
    · rw [h1] at h; cases h
    · rw [h2] at h; cases h
    · rw [h3] at h; cases h
theorem lw_24 {nm rw y : D} {w : Str} {s4 s5 s6 s7 s8 s9 s10 s11 s14 s15 : Sk} {W : Wh} (T : Txt K mg a_QUOTING a_SIDES a_BadName i_BadName a_BadNumber i_BadNumber a_BadSaying i_BadSaying a_Letter i_Letter q_Letter) (hw : PyData.strOk w = true) (gy : GD 11 1900000 y) (k : (u_law_26 T).w noX [.un, .pen, .dat nm, .dat rw, s4, s5, s6, s7, s8, s9, s10, s11, .dat (.tup [.str w, y]), .dat (.tup [.str w, y]), s14, s15] W) : (u_law_24 T).w noX [.un, .pen, .dat nm, .dat rw, s4, s5, s6, s7, s8, s9, s10, s11, .dat (.tup [.str w, y]), .dat (.tup [.str w, y]), s14, s15] W := by
  unfold u_law_24
  walk_at "w"
  have ho : (D.str w).ok = true := (GD.str (k := 0) (n := 10 * w.length + 2) hw (Nat.le_refl _)).ok
  exact ⟨ho, ho, fun _ => ⟨⟨rfl, gy⟩, k⟩, fun e => by simp at e⟩
theorem lw_26a {nm rw a n : D} {ds : List D} {s4 s7 s8 s9 s10 s13 s14 s15 : Sk} {W : Wh} (T : Txt K mg a_QUOTING a_SIDES a_BadName i_BadName a_BadNumber i_BadNumber a_BadSaying i_BadSaying a_Letter i_Letter q_Letter) (h1 : nameB a = true) (h2 : wholeB 1 none n = true) (h3 : sayingB (.lst ds) = true) (ga : GV a) (gn : GV n) (gs : GV (.lst ds)) (hs : SamD 4 (.tup ds)) (hl : ds.length < 1000000) (k : ∀ s11 s14, W.N [.un, .pen, .dat nm, .dat rw, s4, .dat a, .dat n, s7, s8, s9, s10, s11, .dat (.tup [.str "letter", .tup [a, n, .tup ds]]), s13, s14, s15]) :
    (u_law_26 T).w noX [.un, .pen, .dat nm, .dat rw, s4, .dat a, .dat n, s7, s8, s9, s10, .own ds, .dat (.tup [.str "letter", .tup [a, n, .tup ds]]), s13, s14, s15] W := by
  unfold u_law_26
  walk_at "w"
  exact ⟨rfl, by decide +kernel, by decide +kernel, fun _ => lw_27 T h1 h2 h3 ga gn gs hs hl k, fun e => by simp at e⟩
theorem lw_26b {nm rw y h : D} {w : Str} {s4 s5 s6 s7 s8 s9 s10 s13 s14 s15 : Sk} {W : Wh} (T : Txt K mg a_QUOTING a_SIDES a_BadName i_BadName a_BadNumber i_BadNumber a_BadSaying i_BadSaying a_Letter i_Letter q_Letter) (hw : PyData.strOk w = true) (hb : h.builtin = true) (hn : h.isL = true → ¬ w = "letter") (k : W.N [.un, .pen, .dat nm, .dat rw, s4, s5, s6, s7, s8, s9, s10, .dat h, .dat (.tup [.str w, y]), s13, s14, s15]) : (u_law_26 T).w noX [.un, .pen, .dat nm, .dat rw, s4, s5, s6, s7, s8, s9, s10, .dat h, .dat (.tup [.str w, y]), s13, s14, s15] W := by
  unfold u_law_26
  walk_at "w"
  have ho : (D.str w).ok = true := (GD.str (k := 0) (n := 10 * w.length + 2) hw (Nat.le_refl _)).ok
  exact ⟨hb, fun hL => ⟨ho, by decide +kernel, fun e => absurd (of_decide_eq_true e) (hn hL), fun _ => k⟩, fun _ => k⟩
theorem lw_22d {nm rw a n : D} {l : List D} {s4 s7 s8 s9 s10 s12 s13 s14 s15 : Sk} {W : Wh} (T : Txt K mg a_QUOTING a_SIDES a_BadName i_BadName a_BadNumber i_BadNumber a_BadSaying i_BadSaying a_Letter i_Letter q_Letter) (ga : GD 5 5000 a) (gn : GD 5 5000 n) (gs : GD 9 1300000 (.tup l)) (k : ∀ s12 s13 s14, W.N [.un, .pen, .dat nm, .dat rw, s4, .dat a, .dat n, s7, s8, s9, s10, .dat (.tup l), s12, s13, s14, s15]) : (u_law_22 T).w noX [.un, .pen, .dat nm, .dat rw, s4, .dat a, .dat n, s7, s8, s9, s10, .dat (.tup l), s12, s13, s14, s15] W := by
  unfold u_law_22
  walk_at "w"
  have hp : GV a ∧ GV n ∧ GV (.tup l) := ⟨ga.mono (by decide) (by decide), gn.mono (by decide) (by decide), gs.mono (by decide) (by decide)⟩
  refine ⟨hp, ?_⟩
  obtain ⟨w, y, hd, ow, gy⟩ : ∃ w y, dueD a n (.tup l) = .tup [.str w, y] ∧ PyData.strOk w = true ∧ GD 11 1900000 y := by
    rcases due_shape ga gn gs gs (.inl rfl) with ⟨_, _, _, _, hd, gy⟩ | ⟨w, y, hd, _, ow, gy⟩
    · exact ⟨_, _, hd, by decide +kernel, gy⟩
    · exact ⟨w, y, hd, ow, gy⟩
  rw [hd]
  unfold u_law_23
  walk_at "w"
  refine ⟨hp, ?_⟩
  rw [hd]
  exact lw_24 T ow gy (lw_26b T ow rfl (fun h => nomatch h) (k _ _ _))
theorem lw_22o {nm rw a n : D} {ds : List D} {s4 s7 s8 s9 s10 s12 s13 s14 s15 : Sk} {W : Wh} (T : Txt K mg a_QUOTING a_SIDES a_BadName i_BadName a_BadNumber i_BadNumber a_BadSaying i_BadSaying a_Letter i_Letter q_Letter) (ga : GD 5 5000 a) (gn : GD 5 5000 n) (gs : GD 9 1300000 (.tup ds)) (k : ∀ s11 s12 s13 s14, W.N [.un, .pen, .dat nm, .dat rw, s4, .dat a, .dat n, s7, s8, s9, s10, s11, s12, s13, s14, s15]) : (u_law_22 T).w noX [.un, .pen, .dat nm, .dat rw, s4, .dat a, .dat n, s7, s8, s9, s10, .own ds, s12, s13, s14, s15] W := by
  unfold u_law_22
  walk_at "w"
  have gsl : GD 9 1300000 (.lst ds) := ⟨gs.pl, gs.lay, gs.sh, gs.dep, gs.w⟩
  have hp : GV a ∧ GV n ∧ GV (.lst ds) := ⟨ga.mono (by decide) (by decide), gn.mono (by decide) (by decide), gsl.mono (by decide) (by decide)⟩
  rcases due_shape ga gn gsl gs (.inl rfl) with ⟨h1, h2, h3, _, hd, gy⟩ | ⟨w, y, hd, nw, ow, gy⟩
  · obtain ⟨q, hq, hs⟩ := sam_saying hp.2.2 h3
    cases hq
    have nl : noLst (dueD a n (.lst ds)) = true := by
      rw [hd]
      obtain ⟨z, rfl⟩ := nameB_so h1
      obtain ⟨i, rfl⟩ := wholeB_so h2
      show (true && ((true && (true && (noLst (D.tup ds) && true))) && true)) = true
      rw [noLst_sam hs]; rfl
    refine .inl ⟨hp, nl, ?_⟩
    unfold u_law_23
    walk_at "w"
    refine .inl ⟨hp, nl, ?_⟩
    rw [hd]
    have hl := gd_len gs.tups
    exact lw_24 T (by decide +kernel) gy (lw_26a T h1 h2 h3 hp.1 hp.2.1 hp.2.2 hs (by omega) fun s11 s14 => k _ _ _ _)
  · refine .inr ⟨hp, ?_⟩
    rw [hd]
    unfold u_law_23
    walk_at "w"
    refine ⟨hp, ?_⟩
    rw [hd]
    exact lw_24 T ow gy (lw_26b T ow rfl (fun _ => nw) (k _ _ _ _))
theorem lw_15 {nm rw a : D} {i : Int} {l : List D} {s4 s8 s9 s10 s11 s12 s13 s14 s15 : Sk} {W : Wh} (T : Txt K mg a_QUOTING a_SIDES a_BadName i_BadName a_BadNumber i_BadNumber a_BadSaying i_BadSaying a_Letter i_Letter q_Letter) (ga : TxD true 12 a) (i0 : 1 ≤ i) (i1 : i ≤ 1000000000000000000000000000000000000000) (l4 : l.length ≤ 4) (gl : GDs 5 200000 l) (k : ∀ s5 s6 s7 s11 s12 s13 s14, W.N [.un, .pen, .dat nm, .dat rw, s4, s5, s6, s7, s8, s9, s10, s11, s12, s13, s14, s15]) :
    (u_law_15 T).w noX [.un, .pen, .dat nm, .dat rw, s4, .dat a, .dat (.int i), .dat (.tup l), s8, s9, s10, s11, s12, s13, s14, s15] W := by
  have q21 : ∀ (a n : D) (l : List D), GD 5 5000 a → GD 5 5000 n → GD 9 1300000 (.tup l) → (u_law_21 T).w noX [.un, .pen, .dat nm, .dat rw, s4, .dat a, .dat n, .dat (.tup l), s8, s9, s10, s11, s12, s13, s14, s15] W := by
    intro a n l ga gn gl
    unfold u_law_21
    walk_at "w"
    simp only [pre_law_draw, post_law_draw]
    refine ⟨⟨by decide, by decide⟩, ?_⟩
    rintro d ⟨j, rfl, _, _⟩
    walk_at "w"
    exact ⟨fun _ => lw_22o T ga gn gl fun _ _ _ _ => k _ _ _ _ _ _ _, fun _ => lw_22d T ga gn gl fun _ _ _ => k _ _ _ _ _ _ _⟩
  have q19 : ∀ (a n : D), GD 5 5000 a → GD 5 5000 n → (u_law_19 T).w noX [.un, .pen, .dat nm, .dat rw, s4, .dat a, .dat n, .dat (.tup l), s8, s9, s10, s11, s12, s13, s14, s15] W := by
    intro a n ga gn
    unfold u_law_19
    walk_at "w"
    simp only [pre_law_draw, post_law_draw, pre_law_bent, post_law_bent]
    refine ⟨⟨by decide, by decide⟩, ?_⟩
    rintro d ⟨j, rfl, _, _⟩
    walk_at "w"
    refine ⟨fun _ => ⟨⟨l, rfl, by omega, gl.mono (by decide) (by decide)⟩, ?_⟩, fun _ => q21 a n l ga gn (gl.tup.mono (by decide) (by decide))⟩
    rintro b ⟨ds', e, es, rfl, hle, hw⟩
    cases e
    exact q21 a n es ga gn ((hw 200000 (gl.mono (by decide) (Nat.le_refl _))).tup.mono (by decide) (by decide))
  have q17 : ∀ (a : D), GD 5 5000 a → (u_law_17 T).w noX [.un, .pen, .dat nm, .dat rw, s4, .dat a, .dat (.int i), .dat (.tup l), s8, s9, s10, s11, s12, s13, s14, s15] W := by
    intro a ga
    unfold u_law_17
    walk_at "w"
    simp only [pre_law_draw, post_law_draw, post_law_odd]
    refine ⟨⟨by decide, by decide⟩, ?_⟩
    rintro d ⟨j, rfl, _, _⟩
    walk_at "w"
    exact ⟨fun _ => fun d hd => q19 a d ga (GD.mono (show GD 3 5000 d from hd) (by decide) (by decide)), fun _ => q19 a _ ga ((num_gd (k := 5) (by omega) (by omega)).mono (by decide) (by decide))⟩
  unfold u_law_15
  walk_at "w"
  simp only [pre_law_draw, post_law_draw, post_law_odd]
  refine ⟨⟨by decide, by decide⟩, ?_⟩
  rintro d ⟨j, rfl, _, _⟩
  walk_at "w"
  exact ⟨fun _ => fun d hd => q17 d (GD.mono (show GD 3 5000 d from hd) (by decide) (by decide)), fun _ => q17 a ((ga.so.gd (k := 5)).mono (by decide) (by decide))⟩
theorem lw_13 {nm rw a : D} {i : Int} {l : List D} {s4 s9 s10 s11 s12 s13 s14 s15 : Sk} {W : Wh} (T : Txt K mg a_QUOTING a_SIDES a_BadName i_BadName a_BadNumber i_BadNumber a_BadSaying i_BadSaying a_Letter i_Letter q_Letter) (ga : TxD true 12 a) (i0 : 1 ≤ i) (i1 : i ≤ 1000000000000000000000000000000000000000) (l4 : l.length ≤ 4) (gl : GDs 5 200000 l) (sl : sayingB (.tup l) = true) (k : ∀ s5 s6 s7 s8 s11 s12 s13 s14, W.N [.un, .pen, .dat nm, .dat rw, s4, s5, s6, s7, s8, s9, s10, s11, s12, s13, s14, s15]) :
    (u_law_13 T).w noX [.un, .pen, .dat nm, .dat rw, s4, .dat a, .dat (.int i), .dat (.tup l), .dat (letD a_Letter a (.int i) l), s9, s10, s11, s12, s13, s14, s15] W := by
  unfold u_law_13
  walk_at "w"
  obtain ⟨z, rfl, hz⟩ : ∃ z, a = .str z ∧ z.length ≤ 12 := by obtain ⟨z, e, h, _⟩ := ga; exact ⟨z, e, h⟩
  have l1 : ("x" : Str).length = 1 := by decide +kernel
  have i2 : i ≤ 10000000000000000000000000000000000000000 := by omega
  have g0 := let_gv (a := .str z) (i := i) (l := l) ga (by omega) i2 gl
  have o0 : LetOk a_Letter (letD a_Letter (.str z) (.int i) l) := let_ok ga (by omega) i2 gl
  refine ⟨z.length, len_str (by omega), fun h => ?_, fun h => ?_⟩
  · have hlt : z.length < 12 := by have := of_decide_eq_true h; omega
    have ga' := txd_x ga hlt
    have g1 := let_gv (a := .str (z ++ "x")) (i := i) (l := l) ga' (by omega) i2 gl
    refine ⟨by rw [l1]; omega, g1, fun es hq => ?_, no_exc ga'.name (num_whole i0) sl⟩
    cases post_inv hq rfl
    have ne : letEq (letD a_Letter (.str z) (.int i) l) (letD a_Letter (.str (z ++ "x")) (.int i) l) = false := by
      have e : (D.str z).eqv (.str (z ++ "x")) = false := by
        rw [eqv_str]
        refine decide_eq_false fun q => ?_
        have := congrArg Str.length q
        rw [str_len_add, l1] at this
        omega
      rw [letEq_eq, e]; rfl
    exact ⟨⟨_, _, rfl⟩, decide_eq_true rfl, ⟨o0, .inl (let_ok ga' (by omega) i2 gl)⟩, (fun e => nomatch (e.symm.trans ne)), fun _ => lw_15 T ga i0 i1 l4 gl fun _ _ _ _ _ _ _ => k _ _ _ _ _ _ _ _⟩
  · have hge : 12 ≤ z.length := by have := of_decide_eq_false h; omega
    have ga' : TxD true 12 (.str "x") := TxD.lit
    have g1 := let_gv (a := .str "x") (i := i) (l := l) ga' (by omega) i2 gl
    refine ⟨g1, fun es hq => ?_, no_exc ga'.name (num_whole i0) sl⟩
    cases post_inv hq rfl
    have ne : letEq (letD a_Letter (.str z) (.int i) l) (letD a_Letter (.str "x") (.int i) l) = false := by
      have e : (D.str z).eqv (.str "x") = false := by
        rw [eqv_str]
        refine decide_eq_false fun q => ?_
        have := congrArg Str.length q
        rw [l1] at this
        omega
      rw [letEq_eq, e]; rfl
    exact ⟨⟨_, _, rfl⟩, decide_eq_true rfl, ⟨o0, .inl (let_ok ga' (by omega) i2 gl)⟩, (fun e => nomatch (e.symm.trans ne)), fun _ => lw_15 T ga i0 i1 l4 gl fun _ _ _ _ _ _ _ => k _ _ _ _ _ _ _ _⟩
theorem lw_10 {nm rw a : D} {i : Int} {l : List D} {s4 s9 s10 s11 s12 s13 s14 s15 : Sk} {W : Wh} (T : Txt K mg a_QUOTING a_SIDES a_BadName i_BadName a_BadNumber i_BadNumber a_BadSaying i_BadSaying a_Letter i_Letter q_Letter) (hn : NmOk nm) (hr : FoOk rw) (ga : TxD true 12 a) (i0 : 1 ≤ i) (i1 : i ≤ 1000000000000000000000000000000000000000) (l4 : l.length ≤ 4) (gl : GDs 5 200000 l) (sl : sayingB (.tup l) = true) (k : ∀ s5 s6 s7 s8 s10 s11 s12 s13 s14, W.N [.un, .pen, .dat nm, .dat rw, s4, s5, s6, s7, s8, s9, s10, s11, s12, s13, s14, s15]) :
    (u_law_10 T).w noX [.un, .pen, .dat nm, .dat rw, s4, .dat a, .dat (.int i), .dat (.tup l), .dat (letD a_Letter a (.int i) l), s9, s10, s11, s12, s13, s14, s15] W := by
  unfold u_law_10
  walk_at "w"
  unfold u_law_11
  walk_at "w"
  have i2 : i ≤ 10000000000000000000000000000000000000000 := by omega
  have o0 : LetOk a_Letter (letD a_Letter a (.int i) l) := let_ok ga (by omega) i2 gl
  have ea : a.eqv a = true := eqv_self (ga.so.gd (k := 5))
  have ei : (D.int i).eqv (.int i) = true := eqv_self (num_gd (k := 5) (by omega) i2)
  refine ⟨⟨hr, hn⟩, ?_⟩
  rintro d ⟨l', rfl, _, _, gl', sl', _⟩
  refine ⟨let_gv ga (by omega) i2 gl', fun es hq => ?_, no_exc ga.name (num_whole i0) sl'⟩
  cases post_inv hq rfl
  have q : letEq (letD a_Letter a (.int i) l) (letD a_Letter a (.int i) l') = (D.tup l).eqv (.tup l') := by
    rw [letEq_eq, ea, ei]; simp
  have q2 : (!(D.bl (letEq (letD a_Letter a (.int i) l) (letD a_Letter a (.int i) l'))).eqv (D.bl ((D.tup l).eqv (.tup l')))) = false := by
    rw [q, eqv_bl]; simp
  refine ⟨⟨_, _, rfl⟩, decide_eq_true rfl, ⟨o0, .inl (let_ok ga (by omega) i2 gl')⟩, gl.tup.ok, gl'.tup.ok, fun _ => ?_, (fun e => nomatch (e.symm.trans q2))⟩
  have i3 : i + 1 ≤ 10000000000000000000000000000000000000000 := by omega
  refine ⟨let_gv ga (by omega) i3 gl, fun es hq => ?_, no_exc ga.name (num_whole (by omega)) sl⟩
  cases post_inv hq rfl
  have ne : letEq (letD a_Letter a (.int i) l) (letD a_Letter a (.int (i + 1)) l) = false := by
    have e : (D.int i).eqv (.int (i + 1)) = false := by
      rw [eqv_int]
      exact decide_eq_false (by omega)
    rw [letEq_eq, ea, e]; rfl
  exact ⟨⟨_, _, rfl⟩, decide_eq_true rfl, ⟨o0, .inl (let_ok ga (by omega) i3 gl)⟩, (fun e => nomatch (e.symm.trans ne)), fun _ => lw_13 T ga i0 i1 l4 gl sl fun _ _ _ _ _ _ _ _ => k _ _ _ _ _ _ _ _ _⟩
theorem lw_8 {nm rw a : D} {i : Int} {l : List D} {s4 s10 s11 s12 s13 s14 s15 : Sk} {W : Wh} (T : Txt K mg a_QUOTING a_SIDES a_BadName i_BadName a_BadNumber i_BadNumber a_BadSaying i_BadSaying a_Letter i_Letter q_Letter) (hn : NmOk nm) (hr : FoOk rw) (ga : TxD true 12 a) (i0 : 1 ≤ i) (i1 : i ≤ 1000000000000000000000000000000000000000) (l4 : l.length ≤ 4) (gl : GDs 5 200000 l) (sl : sayingB (.tup l) = true) (k : ∀ s5 s6 s7 s8 s9 s10 s11 s12 s13 s14, W.N [.un, .pen, .dat nm, .dat rw, s4, s5, s6, s7, s8, s9, s10, s11, s12, s13, s14, s15]) :
    (u_law_8 T).w noX [.un, .pen, .dat nm, .dat rw, s4, .dat a, .dat (.int i), .dat (.tup l), .dat (letD a_Letter a (.int i) l), .dat (letD a_Letter a (.int i) l), s10, s11, s12, s13, s14, s15] W := by
  unfold u_law_8
  walk_at "w"
  have i2 : i ≤ 10000000000000000000000000000000000000000 := by omega
  have o0 : LetOk a_Letter (letD a_Letter a (.int i) l) := let_ok ga (by omega) i2 gl
  have eq : letEq (letD a_Letter a (.int i) l) (letD a_Letter a (.int i) l) = true := by
    rw [letEq_eq, eqv_self (ga.so.gd (k := 5)), eqv_self (num_gd (k := 5) (i := i) (by omega) i2), eqv_self gl.tup]; rfl
  have nq : (!letEq (letD a_Letter a (.int i) l) (letD a_Letter a (.int i) l)) = false := by rw [eq]; rfl
  exact ⟨⟨_, _, rfl⟩, ⟨_, _, rfl⟩, ⟨o0, .inl o0⟩, fun _ => ⟨⟨_, _, rfl⟩, decide_eq_true rfl, ⟨o0, .inl o0⟩, fun _ => ⟨by decide, ⟨_, _, rfl⟩, rfl, ⟨o0, .inr (.inr ⟨_, rfl⟩)⟩, fun _ => ⟨⟨_, _, rfl⟩, rfl, ⟨o0, .inr (.inl ⟨_, rfl⟩)⟩, (fun e => nomatch e), fun _ => lw_10 T hn hr ga i0 i1 l4 gl sl fun _ _ _ _ _ _ _ _ _ => k _ _ _ _ _ _ _ _ _ _⟩, (fun e => nomatch e)⟩, (fun e => nomatch (e.symm.trans nq))⟩, (fun e => nomatch (e.symm.trans nq))⟩
theorem lw_5 {nm rw : D} {s4 s5 s6 s7 s8 s9 s10 s11 s12 s13 s14 s15 : Sk} {W : Wh} (T : Txt K mg a_QUOTING a_SIDES a_BadName i_BadName a_BadNumber i_BadNumber a_BadSaying i_BadSaying a_Letter i_Letter q_Letter) (hn : NmOk nm) (hr : FoOk rw) (k : ∀ s5 s6 s7 s8 s9 s10 s11 s12 s13 s14, W.N [.un, .pen, .dat nm, .dat rw, s4, s5, s6, s7, s8, s9, s10, s11, s12, s13, s14, s15]) :
    (u_law_5 T).w noX [.un, .pen, .dat nm, .dat rw, s4, s5, s6, s7, s8, s9, s10, s11, s12, s13, s14, s15] W := by
  unfold u_law_5
  walk_at "w"
  unfold u_law_6
  walk_at "w"
  unfold u_law_7
  walk_at "w"
  have hn' := hn
  obtain ⟨a, b, c, e, rfl, ha, hb, hc, he⟩ := hn'
  have e30 : (10 : Int) ^ Int.toNat 30 = 1000000000000000000000000000000 := by decide +kernel
  have e39 : (10 : Int) ^ Int.toNat 39 = 1000000000000000000000000000000000000000 := by decide +kernel
  rw [e30, e39]
  refine ⟨⟨_, rfl, by simp, by simp⟩, ?_⟩
  rintro d ⟨ds, e1, hd⟩
  cases e1
  have ga := nm_mem ha hb hc he hd
  refine ⟨⟨by decide, by decide, by decide⟩, ⟨by decide, by decide, by decide⟩, ⟨by decide, by decide⟩, ?_⟩
  rintro d1 ⟨m, rfl, m0, m1⟩
  walk_at "w"
  refine ⟨by decide, ⟨_, rfl, by simp, by simp⟩, ?_⟩
  rintro d3 ⟨ds, e2, hd3⟩
  cases e2
  obtain ⟨i, rfl, i0, i1⟩ : ∃ i : Int, d3 = .int i ∧ 1 ≤ i ∧ i ≤ 1000000000000000000000000000000000000000 := by
    simp only [List.mem_cons, List.not_mem_nil, or_false] at hd3
    rcases hd3 with rfl | rfl | rfl | rfl | rfl
    · exact ⟨_, rfl, by omega, by omega⟩
    · exact ⟨_, rfl, by omega, by omega⟩
    · exact ⟨_, rfl, by omega, by omega⟩
    · exact ⟨_, rfl, by omega, by omega⟩
    · exact ⟨_, rfl, by omega, by omega⟩
  have i2 : i ≤ 10000000000000000000000000000000000000000 := by omega
  refine ⟨⟨hr, hn⟩, ?_⟩
  rintro d4 ⟨l, rfl, _, l4, gl, sl, _⟩
  refine ⟨let_gv ga (by omega) i2 gl, fun es hq => ?_, no_exc ga.name (num_whole i0) sl⟩
  cases post_inv hq rfl
  have g0 := let_gv (i := i) ga (by omega) i2 gl
  refine ⟨l, rfl, ⟨g0.1, g0.2.1, ⟨g0.2.2.pl, g0.2.2.lay, g0.2.2.sh, g0.2.2.dep, g0.2.2.w⟩⟩, fun es hq => ?_, no_exc ga.name (num_whole i0) sl⟩
  cases post_inv hq rfl
  exact lw_8 T hn hr ga i0 i1 l4 gl sl k
theorem lw_31 {nm rw : D} {s4 s5 s6 s7 s8 s9 s10 s11 s12 s13 s14 s15 : Sk} (T : Txt K mg a_QUOTING a_SIDES a_BadName i_BadName a_BadNumber i_BadNumber a_BadSaying i_BadSaying a_Letter i_Letter q_Letter) (hn : NmOk nm) : (u_law_31 T).w noX [.un, .pen, .dat nm, .dat rw, s4, s5, s6, s7, s8, s9, s10, s11, s12, s13, s14, s15] (retW fun r => r = .bl true) := by
  unfold u_law_31
  walk_at "w"
  unfold u_law_32
  walk_at "w"
  intro d hd
  obtain ⟨a, b, c, e, rfl, ha, hb, hc, he⟩ := hn
  have ga : GV a := (ha.so.gd (k := 5)).mono (by decide) (by decide)
  have g1 : GV (.int 1) := (num_gd (k := 5) (by decide) (by decide)).mono (by decide) (by decide)
  have gd : GV d := GD.mono (show GD 3 5000 d from hd) (by decide) (by decide)
  obtain ⟨w, y, hq, ow⟩ := due_head (a := a) (n := .int 1) (s := d)
  have ho : (D.str w).ok = true := (GD.str (k := 0) (n := 10 * w.length + 2) ow (Nat.le_refl _)).ok
  refine ⟨a, rfl, ⟨ga, g1, gd⟩, ?_⟩
  rw [hq]
  refine ⟨.str w, rfl, a, rfl, ⟨ga, g1, gd⟩, ?_⟩
  rw [hq]
  exact ⟨.str w, rfl, ho, ho, by rw [eqv_str]; simp⟩
theorem v_law (T : Txt K mg a_QUOTING a_SIDES a_BadName i_BadName a_BadNumber i_BadNumber a_BadSaying i_BadSaying a_Letter i_Letter q_Letter) : (u_law T).w noX [.un, .pen, .un, .un, .un, .un, .un, .un, .un, .un, .un, .un, .un, .un, .un, .un] (retW fun r => r = .bl true) := by
  unfold u_law

  walk_at "w"
  simp only [pre_law_names, post_law_names]
  refine ⟨⟨4, rfl, by decide⟩, ?_⟩
  rintro d ⟨n, e, es, rfl, hl, hs⟩
  have hn : NmOk (.lst es) := by
    cases e
    match es, hl with
    | [a, b, c, e], _ => exact ⟨a, b, c, e, rfl, hs a (by simp), hs b (by simp), hs c (by simp), hs e (by simp)⟩
  unfold u_law_3
  walk_at "w"
  simp only [pre_law_some_forum, post_law_some_forum]
  refine ⟨hn, fun d hr => ?_⟩
  unfold u_law_4
  walk_at "w"
  refine ⟨6, rfl, by decide, ?_⟩
  refine ForP.of (fun j G => ∃ s4 s5 s6 s7 s8 s9 s10 s11 s12 s13 s14 s15, G = [.un, .pen, .dat (.lst es), .dat d, s4, s5, s6, s7, s8, s9, s10, s11, s12, s13, s14, s15]) (by simp) ⟨_, _, _, _, _, _, _, _, _, _, _, _, rfl⟩ ?_ ?_
  · rintro j q G hd ⟨s4, s5, s6, s7, s8, s9, s10, s11, s12, s13, s14, s15, rfl⟩
    refine ⟨_, rfl, ?_⟩
    refine w_atS (u_law_5 T) (lw_5 (nm := .lst es) (rw := d) (s4 := .dat q) (s5 := s5) (s6 := s6) (s7 := s7) (s8 := s8) (s9 := s9) (s10 := s10) (s11 := s11) (s12 := s12) (s13 := s13) (s14 := s14) (s15 := s15) T hn hr ?_) rfl rfl rfl
    intro q5 q6 q7 q8 q9 q10 q11 q12 q13 q14
    exact ⟨_, q5, q6, q7, q8, q9, q10, q11, q12, q13, q14, _, rfl⟩
  · rintro G ⟨s4, s5, s6, s7, s8, s9, s10, s11, s12, s13, s14, s15, rfl⟩
    exact lw_31 T hn
abbrev k_law : Nat := 20
theorem c_law (X : Defs K mg a_QUOTING a_SIDES a_BadName i_BadName a_BadNumber i_BadNumber a_BadSaying i_BadSaying a_Letter i_Letter q_Letter) (T : Txt K mg a_QUOTING a_SIDES a_BadName i_BadName a_BadNumber i_BadNumber a_BadSaying i_BadSaying a_Letter i_Letter q_Letter) {f : Addr} {fd : FuncData} (F : FunV K "law" "law" s_law f fd) : FnG P w K mg base CX0 k_law f fd ["script"] (SpLaw K) := by
  have c_law_pen := c_law_pen (P := P) (w := w) (base := base) X T
  have c_law_names := c_law_names (P := P) (w := w) (base := base) X T
  have c_law_some_forum := c_law_some_forum (P := P) (w := w) (base := base) X T
  have c_law_odd := c_law_odd (P := P) (w := w) (base := base) X T
  have c_law_any_saying := c_law_any_saying (P := P) (w := w) (base := base) X T
  have c_law_due := c_law_due (P := P) (w := w) (base := base) X T
  have c_law_made := c_law_made (P := P) (w := w) (base := base) X T
  have c_law_pick := c_law_pick (P := P) (w := w) (base := base) X T
  have c_law_draw := c_law_draw (P := P) (w := w) (base := base) X T
  have c_law_bent := c_law_bent (P := P) (w := w) (base := base) X T
  have c_law_alike := c_law_alike (P := P) (w := w) (base := base) X T 12
  have c_law_same := c_law_same (P := P) (w := w) (base := base) X T 5
  have m_Letter := m_Letter (P := P) (w := w) (base := base) X T
  obtain ⟨fd_eq, F_eq, B_eq⟩ := c_Letter_eq (P := P) (w := w) (base := base) X T
  refine fng_raw (N := N_law) F sc_law (fun vs H Q E h => ?_) (fun f cdv A outer s H vs Q E hr ng h => ?_)
  · obtain ⟨a, ns, rfl, _⟩ := h; rfl
  · obtain ⟨a, ns, rfl, hs, hl, q⟩ := h
    obtain ⟨t, ht, et⟩ : ∃ t, PSs (cxOf CX0 P w K mg base N_law "law" (defScope s_law) f cdv A outer s H E).nox (defBody s_law) t ∧ t = tSeq (tAsg (tCall (SpPen K) [] L2.E0 (tCons (tVar 0) tNil)) (gName 1)) (u_law T).t := ⟨_, (pss_cons (ps_set (i := 1) sc_law.nd rfl (Or.inl rfl) (peg_cal c_law_pen hr (by decide) ng rfl (pa_cons (pv 0) pa_nil)))
 (pss_cons (ps_set (i := 2) sc_law.nd rfl (Or.inl rfl) (peg_cal c_law_names hr (by decide) ng rfl (pa_cons (pv 1) (pa_cons pe_int pa_nil))))
 (pss_cons (ps_set (i := 3) sc_law.nd rfl (Or.inl rfl) (peg_cal c_law_some_forum hr (by decide) ng rfl (pa_cons (pv 1) (pa_cons (pv 2) pa_nil))))
 (pss_cons (ps_for PassesOwn.never rfl (pi_range1 rfl T.b_range (pa_cons pe_int pa_nil)) (pg_name (i := 4) sc_law.nd rfl (Or.inl rfl)) (pss_cons (ps_par rfl sc_law.nd rfl rfl (by decide) rfl rfl (pa_cons (peg_cal c_law_pick hr (by decide) ng rfl (pa_cons (pv 1) (pa_cons (pv 2) pa_nil))) (pa_cons (peg_cal c_law_pick hr (by decide) ng rfl (pa_cons (pv 1) (pa_cons (pe_lst (pa_cons pe_int (pa_cons pe_int (pa_cons pe_int (pa_cons (pe_op op_pow pe_int pe_int) (pa_cons (pe_op (op_addUk (K := K)) pe_int (peg_cal c_law_draw hr (by decide) ng rfl (pa_cons (pv 1) (pa_cons (pe_op op_pow pe_int pe_int) pa_nil)))) pa_nil)))))) pa_nil))) pa_nil)) (by rfl))
 (pss_cons (ps_set (i := 7) sc_law.nd rfl (Or.inl rfl) (peg_cal c_law_any_saying hr (by decide) ng rfl (pa_cons (pv 1) (pa_cons (pv 3) (pa_cons (pv 2) pa_nil)))))
 (pss_cons (ps_par rfl sc_law.nd rfl rfl (by decide) rfl rfl (pa_cons (peg_makX m_Letter hr (by decide) ng rfl takes0 (pa_cons (pv 5) (pa_cons (pv 6) (pa_cons (pv 7) pa_nil)))) (pa_cons (peg_makX m_Letter hr (by decide) ng rfl takes0 (pa_cons (pv 5) (pa_cons (pv 6) (pa_cons (pe_callTy (call_list_ofk (K := K)) (by rfl) T.b_list (by decide +kernel) (pa_cons (pv 7) pa_nil)) pa_nil)))) pa_nil)) (by rfl))
 (pss_cons (ps_if (PW.pt (pw_or (pt_cmpR (op_neO T.l_Letter.ne F_eq (hr.mono (by decide)) ng B_eq) (pv 8) (pv 9) (nomark _)) (pw_or (pt_not (pt_cmpR (op_eqO T.l_Letter.eq F_eq (hr.mono (by decide)) ng B_eq) (pv 8) (pv 9) (nomark _))) (pw_or (pt_cmpR (op_eqO T.l_Letter.eq F_eq (hr.mono (by decide)) ng B_eq) (pv 8) (pe_tup (pa_cons (pv 5) (pa_cons (pv 6) (pa_cons (pv 7) pa_nil)))) (nomark _)) (pw_or1 (pt_cmpR (op_eqO T.l_Letter.eq F_eq (hr.mono (by decide)) ng B_eq) (pv 8) pe_int (nomark _))))))) (pss_one (ps_ret pe_bl)) pss_nil)
 (pss_cons (ps_set (i := 10) sc_law.nd rfl (Or.inl rfl) (peg_cal c_law_any_saying hr (by decide) ng rfl (pa_cons (pv 1) (pa_cons (pv 3) (pa_cons (pv 2) pa_nil)))))
 (pss_cons (ps_if (PW.pt (pw_or (pt_cmpR (op_neDk (K := K) (Room.units hr)) (pe_cmpR (op_eqO T.l_Letter.eq F_eq (hr.mono (by decide)) ng B_eq) (pv 8) (peg_makX m_Letter hr (by decide) ng rfl takes0 (pa_cons (pv 5) (pa_cons (pv 6) (pa_cons (pv 10) pa_nil)))) (nomark _)) (pe_cmpR (op_eqDk (K := K) (Room.units hr)) (pv 7) (pv 10) (nomark _)) (nomark _)) (pw_or1 (pt_cmpR (op_eqO T.l_Letter.eq F_eq (hr.mono (by decide)) ng B_eq) (pv 8) (peg_makX m_Letter hr (by decide) ng rfl takes0 (pa_cons (pv 5) (pa_cons (pe_op (op_addUk (K := K)) (pv 6) pe_int) (pa_cons (pv 7) pa_nil)))) (nomark _))))) (pss_one (ps_ret pe_bl)) pss_nil)
 (pss_cons (ps_if (pt_cmpR (op_eqO T.l_Letter.eq F_eq (hr.mono (by decide)) ng B_eq) (pv 8) (peg_makX m_Letter hr (by decide) ng rfl takes0 (pa_cons (pe_ifExp (pt_cmpR op_lt (pe_callB (call_lenk (K := K)) (by rfl) T.b_len (by decide +kernel) (pa_cons (pv 5) pa_nil)) pe_int (nomark _)) (pe_op (op_addUk (K := K)) (pv 5) pe_str) pe_str) (pa_cons (pv 6) (pa_cons (pv 7) pa_nil)))) (nomark _)) (pss_one (ps_ret pe_bl)) pss_nil)
 (pss_cons (ps_if (pt_cmpR (op_eqDk (K := K) (Room.units hr)) (peg_cal c_law_draw hr (by decide) ng rfl (pa_cons (pv 1) (pa_cons pe_int pa_nil))) pe_int (nomark _)) (pss_one (ps_set (i := 5) sc_law.nd rfl (Or.inl rfl) (peg_cal c_law_odd hr (by decide) ng rfl (pa_cons (pv 1) pa_nil)))) pss_nil)
 (pss_cons (ps_if (pt_cmpR (op_eqDk (K := K) (Room.units hr)) (peg_cal c_law_draw hr (by decide) ng rfl (pa_cons (pv 1) (pa_cons pe_int pa_nil))) pe_int (nomark _)) (pss_one (ps_set (i := 6) sc_law.nd rfl (Or.inl rfl) (peg_cal c_law_odd hr (by decide) ng rfl (pa_cons (pv 1) pa_nil)))) pss_nil)
 (pss_cons (ps_if (pt_cmpR op_gt (peg_cal c_law_draw hr (by decide) ng rfl (pa_cons (pv 1) (pa_cons pe_int pa_nil))) pe_int (nomark _)) (pss_one (ps_set (i := 7) sc_law.nd rfl (Or.inl rfl) (peg_cal c_law_bent hr (by decide) ng rfl (pa_cons (pv 1) (pa_cons (pv 7) pa_nil))))) pss_nil)
 (pss_cons (ps_set (i := 11) sc_law.nd rfl (Or.inl rfl) (pe_ifExp (pt_cmpR (op_eqDk (K := K) (Room.units hr)) (peg_cal c_law_draw hr (by decide) ng rfl (pa_cons (pv 1) (pa_cons pe_int pa_nil))) pe_int (nomark _)) (pe_callTy (call_list_ofk (K := K)) (by rfl) T.b_list (by decide +kernel) (pa_cons (pv 7) pa_nil)) (pv 7)))
 (pss_cons (ps_set (i := 12) sc_law.nd rfl (Or.inl rfl) (peg_cal c_law_due hr (by decide) ng rfl (pa_cons (pv 5) (pa_cons (pv 6) (pa_cons (pv 11) pa_nil)))))
 (pss_cons (ps_set (i := 13) sc_law.nd rfl (Or.inl rfl) (peg_cal c_law_made hr (by decide) ng rfl (pa_cons (pv 5) (pa_cons (pv 6) (pa_cons (pv 11) pa_nil)))))
 (pss_cons (ps_if (PW.pt (pw_or (pt_cmpR (op_neDk (K := K) (Room.units hr)) (pe_ix (ix_seqk (K := K)) (pv 13) pe_int (fun _ _ => rfl)) (pe_ix (ix_seqk (K := K)) (pv 12) pe_int (fun _ _ => rfl)) (nomark _)) (pw_or1 (pt_not (pt_val (peg_cal c_law_alike hr (by decide) ng rfl (pa_cons (pe_ix (ix_seqk (K := K)) (pv 13) pe_int (fun _ _ => rfl)) (pa_cons (pe_ix (ix_seqk (K := K)) (pv 12) pe_int (fun _ _ => rfl)) pa_nil)))))))) (pss_one (ps_ret pe_bl)) pss_nil)
 (pss_one (ps_if (PW.pt (pw_and (pt_val (pe_callB (call_isik (K := K)) (by rfl) T.b_isinstance (by decide +kernel) (pa_cons (pv 11) (pa_cons (pe_bltn (v := .ty "list") (by rfl) T.b_list (by decide +kernel) rfl) pa_nil)))) (pw_and1 (pt_cmpR (op_eqDk (K := K) (Room.units hr)) (pe_ix (ix_seqk (K := K)) (pv 12) pe_int (fun _ _ => rfl)) pe_str (nomark _))))) (pss_cons (ps_set (i := 14) sc_law.nd rfl (Or.inl rfl) (peg_makX m_Letter hr (by decide) ng rfl takes0 (pa_cons (pv 5) (pa_cons (pv 6) (pa_cons (pv 11) pa_nil)))))
 (pss_cons (ps_expr (pe_bm PySem.F.plainAttrs_list PySem.F.slot_list_append PySem.F.type_list_append mt_append (pv 11) (pa_cons pe_str pa_nil)))
 (pss_one (ps_if (pt_not (pt_val (peg_cal c_law_same hr (by decide) ng rfl (pa_cons (pe_fld (pv 14) rfl) (pa_cons (pe_ix (ix_seqk (K := K)) (pe_ix (ix_seqk (K := K)) (pv 12) pe_int (fun _ _ => rfl)) pe_int (fun _ _ => rfl)) pa_nil))))) (pss_one (ps_ret pe_bl)) pss_nil)))) pss_nil)))))))))))))))))
 (pss_cons (ps_set (i := 15) sc_law.nd rfl (Or.inl rfl) (peg_cal c_law_odd hr (by decide) ng rfl (pa_cons (pv 1) pa_nil)))
 (pss_one (ps_ret (pe_cmpR (op_eqDk (K := K) (Room.units hr)) (pe_ix (ix_seqk (K := K)) (peg_cal c_law_made hr (by decide) ng rfl (pa_cons (pe_ix (ix_seqk (K := K)) (pv 2) pe_int (fun _ _ => rfl)) (pa_cons pe_int (pa_cons (pv 15) pa_nil)))) pe_int (fun _ _ => rfl)) (pe_ix (ix_seqk (K := K)) (peg_cal c_law_due hr (by decide) ng rfl (pa_cons (pe_ix (ix_seqk (K := K)) (pv 2) pe_int (fun _ _ => rfl)) (pa_cons pe_int (pa_cons (pv 15) pa_nil)))) pe_int (fun _ _ => rfl)) (nomark _))))))))), rfl⟩
    subst et
    refine ⟨_, ht, ?_⟩
    exact law_start (n := 14) (m := (u_law T).m) rfl (Nat.le_of_ble_eq_true (by kernel_rfl)) hs hl (fun p c => (u_law T).ok (v_law T)) q
end
end K23
set_option maxRecDepth 100000
set_option maxHeartbeats 8000000
local macro_rules | `(tactic| walk_at "q_is") => `(tactic| (first | delta L2.KOf | skip); k_is)
open PySem PySem.W PyProof.Rows L2 DL K23 in
set_option maxRecDepth 100000 in
set_option maxHeartbeats 0 in
theorem PySem.Challenge.cw_lentvoices_k23_letters_made_and_refused_holds : PySem.Challenge.rw_lentvoices_k23_letters_made_and_refused.Holds := by
  w_on; o_law; k_head; (case hw => w_witness2)
  k_fill
  refine walk_ofG (l := PySem.Challenge.rw_lentvoices_k23_letters_made_and_refused) (n := 63) (k := k_law) (x := "script") (sp := fun K => SpLaw K) rfl (by decide) rfl ⟨rfl, by decide, by decide⟩ (fun w h Y => PySem.W.kIn_of Y) ?F (fun K H a ns hl _ hS => ⟨a, ns, rfl, hS, hl, fun _ => rfl⟩)
  case F =>
    intro w mg fa h KX G hmg
    have b_all : mg "all" = none := by refine' PySem.W.mg_none_of KX G ?a_2; (case a_2 => walk_at "q_is")
    have b_bool : mg "bool" = none := by refine' PySem.W.mg_none_of KX G ?a_3; (case a_3 => walk_at "q_is")
    have b_int : mg "int" = none := by refine' PySem.W.mg_none_of KX G ?a_4; (case a_4 => walk_at "q_is")
    have b_isinstance : mg "isinstance" = none := by refine' PySem.W.mg_none_of KX G ?a_5; (case a_5 => walk_at "q_is")
    have b_len : mg "len" = none := by refine' PySem.W.mg_none_of KX G ?a_6; (case a_6 => walk_at "q_is")
    have b_list : mg "list" = none := by refine' PySem.W.mg_none_of KX G ?a_7; (case a_7 => walk_at "q_is")
    have b_min : mg "min" = none := by refine' PySem.W.mg_none_of KX G ?a_8; (case a_8 => walk_at "q_is")
    have b_range : mg "range" = none := by refine' PySem.W.mg_none_of KX G ?a_9; (case a_9 => walk_at "q_is")
    have b_sorted : mg "sorted" = none := by refine' PySem.W.mg_none_of KX G ?a_10; (case a_10 => walk_at "q_is")
    have b_str : mg "str" = none := by refine' PySem.W.mg_none_of KX G ?a_11; (case a_11 => walk_at "q_is")
    have b_tuple : mg "tuple" = none := by refine' PySem.W.mg_none_of KX G ?a_12; (case a_12 => walk_at "q_is")
    have b_zip : mg "zip" = none := by refine' PySem.W.mg_none_of KX G ?a_13; (case a_13 => walk_at "q_is")
    have g_LETTERS : ∃ u, mg "LETTERS" = some u ∧ RelV (.str "abcdefghijklmnopqrstuvwxyz") u := by refine' glo_mk KX G ?a_14 ?r_14; (case a_14 => walk_at "q_is"); (case r_14 => first | exact rfl | exact ⟨_, rfl⟩)
    have g_FIGURES : ∃ u, mg "FIGURES" = some u ∧ RelV (.str "0123456789") u := by refine' glo_mk KX G ?a_15 ?r_15; (case a_15 => walk_at "q_is"); (case r_15 => first | exact rfl | exact ⟨_, rfl⟩)
    have g_LONGEST_WORD : ∃ u, mg "LONGEST_WORD" = some u ∧ RelV (.int 12) u := by refine' glo_mk KX G ?a_16 ?r_16; (case a_16 => walk_at "q_is"); (case r_16 => first | exact rfl | exact ⟨_, rfl⟩)
    obtain ⟨a_QUOTING, g_QUOTING, t_QUOTING⟩ : ∃ A, (∃ u, mg "QUOTING" = some u ∧ RelV (.ref A) u) ∧ ∀ H, SqT (KOf KX) H A [(.str "see"), (.str "copy")] := by
      refine' tup_mk KX G ?a_17 ?l_17 ?z_17 ?r_17; (case a_17 => walk_at "q_is"); (case l_17 => walk_at "q_is"); (case z_17 => decide +kernel)
      (case r_17 => repeat (first | exact .nil | refine .cons (by first | exact rfl | exact ⟨_, rfl⟩) ?_))
    have g_MOST_PIECES : ∃ u, mg "MOST_PIECES" = some u ∧ RelV (.int 20) u := by refine' glo_mk KX G ?a_18 ?r_18; (case a_18 => walk_at "q_is"); (case r_18 => first | exact rfl | exact ⟨_, rfl⟩)
    have g_MOST_UNITS : ∃ u, mg "MOST_UNITS" = some u ∧ RelV (.int 24) u := by refine' glo_mk KX G ?a_19 ?r_19; (case a_19 => walk_at "q_is"); (case r_19 => first | exact rfl | exact ⟨_, rfl⟩)
    obtain ⟨a_SIDES, g_SIDES, t_SIDES⟩ : ∃ A, (∃ u, mg "SIDES" = some u ∧ RelV (.ref A) u) ∧ ∀ H, SqT (KOf KX) H A [(.str "for"), (.str "against"), (.str "none")] := by
      refine' tup_mk KX G ?a_20 ?l_20 ?z_20 ?r_20; (case a_20 => walk_at "q_is"); (case l_20 => walk_at "q_is"); (case z_20 => decide +kernel)
      (case r_20 => repeat (first | exact .nil | refine .cons (by first | exact rfl | exact ⟨_, rfl⟩) ?_))
    refine' own_then (x := "BadName") (st := s_BadName___init__) (ps := ["self", "name"]) (qual := "BadName.__init__") (ns := ["name"]) KX G ?aC_21 ?xL_21 ?ve_21 ?sa_21 ?ga_21 ?gg_21 ?no_21 ?a1_21 ?t1_21 ?l_21 ?c_21 ?k_21 ?kC_21 ?eC_21 ?tC_21 ?hC_21 ?iC_21 ?sC_21 (fun _ _ _ _ _ _ us hl => match us, hl with | [_, _], _ => rfl) (fun x_BadName e_BadName => ?rest_21)
    (case aC_21 => walk_at "q_is"); (case xL_21 => walk_at "q_is"); (case ve_21 => decide +kernel); (case sa_21 => walk_at "q_is"); (case ga_21 => walk_at "q_is"); (case gg_21 => walk_at "q_is")
    (case no_21 => intro f hf; simp only [List.mem_cons, List.not_mem_nil, or_false] at hf; subst hf; walk_at "q_is")
    (case a1_21 => walk_at "q_is"); (case t1_21 => walk_at "q_is"); (case l_21 => walk_at "q_is"); (case c_21 => walk_at "q_is"); (case k_21 => walk_at "q_is"); (case kC_21 => walk_at "q_is"); (case eC_21 => walk_at "q_is"); (case tC_21 => walk_at "q_is"); (case hC_21 => walk_at "q_is"); (case iC_21 => walk_at "q_is"); (case sC_21 => first | rfl | walk_at "q_is")
    refine' own_then (x := "BadNumber") (st := s_BadNumber___init__) (ps := ["self", "what", "number"]) (qual := "BadNumber.__init__") (ns := ["what", "number"]) KX G ?aC_22 ?xL_22 ?ve_22 ?sa_22 ?ga_22 ?gg_22 ?no_22 ?a1_22 ?t1_22 ?l_22 ?c_22 ?k_22 ?kC_22 ?eC_22 ?tC_22 ?hC_22 ?iC_22 ?sC_22 (fun _ _ _ _ _ _ us hl => match us, hl with | [_, _, _], _ => rfl) (fun x_BadNumber e_BadNumber => ?rest_22)
    (case aC_22 => walk_at "q_is"); (case xL_22 => walk_at "q_is"); (case ve_22 => decide +kernel); (case sa_22 => walk_at "q_is"); (case ga_22 => walk_at "q_is"); (case gg_22 => walk_at "q_is")
    (case no_22 => intro f hf; simp only [List.mem_cons, List.not_mem_nil, or_false] at hf; rcases hf with rfl | rfl <;> walk_at "q_is")
    (case a1_22 => walk_at "q_is"); (case t1_22 => walk_at "q_is"); (case l_22 => walk_at "q_is"); (case c_22 => walk_at "q_is"); (case k_22 => walk_at "q_is"); (case kC_22 => walk_at "q_is"); (case eC_22 => walk_at "q_is"); (case tC_22 => walk_at "q_is"); (case hC_22 => walk_at "q_is"); (case iC_22 => walk_at "q_is"); (case sC_22 => first | rfl | walk_at "q_is")
    refine' own_then (x := "BadSaying") (st := s_BadSaying___init__) (ps := ["self", "saying"]) (qual := "BadSaying.__init__") (ns := ["saying"]) KX G ?aC_23 ?xL_23 ?ve_23 ?sa_23 ?ga_23 ?gg_23 ?no_23 ?a1_23 ?t1_23 ?l_23 ?c_23 ?k_23 ?kC_23 ?eC_23 ?tC_23 ?hC_23 ?iC_23 ?sC_23 (fun _ _ _ _ _ _ us hl => match us, hl with | [_, _], _ => rfl) (fun x_BadSaying e_BadSaying => ?rest_23)
    (case aC_23 => walk_at "q_is"); (case xL_23 => walk_at "q_is"); (case ve_23 => decide +kernel); (case sa_23 => walk_at "q_is"); (case ga_23 => walk_at "q_is"); (case gg_23 => walk_at "q_is")
    (case no_23 => intro f hf; simp only [List.mem_cons, List.not_mem_nil, or_false] at hf; subst hf; walk_at "q_is")
    (case a1_23 => walk_at "q_is"); (case t1_23 => walk_at "q_is"); (case l_23 => walk_at "q_is"); (case c_23 => walk_at "q_is"); (case k_23 => walk_at "q_is"); (case kC_23 => walk_at "q_is"); (case eC_23 => walk_at "q_is"); (case tC_23 => walk_at "q_is"); (case hC_23 => walk_at "q_is"); (case iC_23 => walk_at "q_is"); (case sC_23 => first | rfl | walk_at "q_is")
    refine' exm_then x_BadName x_BadNumber ?s_24 (fun z_BadName_BadNumber => ?rest_24); (case s_24 => walk_at "q_is")
    refine' exm_then x_BadName x_BadSaying ?s_25 (fun z_BadName_BadSaying => ?rest_25); (case s_25 => walk_at "q_is")
    refine' exm_then x_BadNumber x_BadName ?s_26 (fun z_BadNumber_BadName => ?rest_26); (case s_26 => walk_at "q_is")
    refine' exm_then x_BadNumber x_BadSaying ?s_27 (fun z_BadNumber_BadSaying => ?rest_27); (case s_27 => walk_at "q_is")
    refine' exm_then x_BadSaying x_BadName ?s_28 (fun z_BadSaying_BadName => ?rest_28); (case s_28 => walk_at "q_is")
    refine' exm_then x_BadSaying x_BadNumber ?s_29 (fun z_BadSaying_BadNumber => ?rest_29); (case s_29 => walk_at "q_is")
    refine' obj_then (x := "Letter") (st := s_Letter___init__) (ps := ["self", "account", "number", "saying"]) (qual := "Letter.__init__") (stE := s_Letter___eq__) (psE := ["self", "other"]) (qualE := "Letter.__eq__") (ns := ["account", "number", "saying"]) KX G ?aC_30 ?xL_30 ?lN_30 ?dN_30 ?kN_30 ?pg_30 ?hd_30 ?po_30 ?sa_30 ?mk_30 ?kc_30 ?no_30 ?a1_30 ?i1_30 ?l1_30 ?c1_30 ?k1_30 ?a2_30 ?i2_30 ?l2_30 ?c2_30 ?k2_30 ?it_30 ?tt_30 ?fq_30 ?fn_30 ?ha_30 ?hn_30 ?htk_30 ?hm_30 ?kI_30 ?kT_30 (fun _ _ _ _ _ _ us hl => match us, hl with | [_, _, _, _], _ => rfl) (fun _ _ _ _ _ _ us hl => match us, hl with | [_, _], _ => rfl) (fun l_Letter e_Letter h_Letter => ?rest_30)
    (case aC_30 => walk_at "q_is"); (case xL_30 => walk_at "q_is"); (case lN_30 => walk_at "q_is"); (case dN_30 => exact rfl); (case kN_30 => first | rfl | decide +kernel | kernel_rfl)
    (case pg_30 => walk_at "q_is"); (case hd_30 => walk_at "q_is"); (case po_30 => walk_at "q_is"); (case sa_30 => walk_at "q_is"); (case mk_30 => walk_at "q_is"); (case kc_30 => walk_at "q_is")
    (case no_30 => intro f hf; simp only [List.mem_cons, List.not_mem_nil, or_false] at hf; rcases hf with rfl | rfl | rfl <;> walk_at "q_is")
    (case a1_30 => walk_at "q_is"); (case i1_30 => walk_at "q_is"); (case l1_30 => walk_at "q_is"); (case c1_30 => walk_at "q_is"); (case k1_30 => walk_at "q_is"); (case a2_30 => walk_at "q_is"); (case i2_30 => walk_at "q_is"); (case l2_30 => walk_at "q_is"); (case c2_30 => walk_at "q_is"); (case k2_30 => walk_at "q_is"); (case it_30 => walk_at "q_is"); (case tt_30 => walk_at "q_is")
    (case fq_30 => first | rfl | decide +kernel | kernel_rfl); (case fn_30 => first | rfl | decide +kernel | kernel_rfl)
    (case ha_30 => walk_at "q_is"); (case hn_30 => walk_at "q_is"); (case htk_30 => walk_at "q_is"); (case hm_30 => walk_at "q_is"); (case kI_30 => first | walk_at "q_is" | rfl | decide +kernel); (case kT_30 => first | walk_at "q_is" | rfl | decide +kernel)
    have d_is_whole : Def (KOf KX) mg "is_whole" s_is_whole ["value", "least", "most"] [] := by
      refine' def_mkD (dvs := [.non]) 3 1 KX G ?a_31 ?l_31 ?lT_31 ?c_31 ?k_31 ?oT_31 ?r_31 (by decide) (by decide) (fun _ _ _ _ _ _ _ us its h1 h2 => match us, its, h1, h2 with | [_, _, _], [_], _, _ => ⟨_, rfl, rfl⟩); (case a_31 => walk_at "q_is"); (case l_31 => walk_at "q_is"); (case lT_31 => walk_at "q_is"); (case c_31 => walk_at "q_is"); (case k_31 => walk_at "q_is")
      (case oT_31 => exact rfl); (case r_31 => repeat (first | exact .nil | refine .cons (by first | exact rfl | exact ⟨_, rfl⟩) ?_))
    have d_is_whole_1 : Def (KOf KX) mg "is_whole" s_is_whole ["value", "least", "most"] [.non] := by
      refine' def_mkD (dvs := [.non]) 2 0 KX G ?a_32 ?l_32 ?lT_32 ?c_32 ?k_32 ?oT_32 ?r_32 (by decide) (by decide) (fun _ _ _ _ _ _ _ us its h1 h2 => match us, its, h1, h2 with | [_, _], [_], _, _ => ⟨_, rfl, rfl⟩); (case a_32 => walk_at "q_is"); (case l_32 => walk_at "q_is"); (case lT_32 => walk_at "q_is"); (case c_32 => walk_at "q_is"); (case k_32 => walk_at "q_is")
      (case oT_32 => exact rfl); (case r_32 => repeat (first | exact .nil | refine .cons (by first | exact rfl | exact ⟨_, rfl⟩) ?_))
    have d_is_listed : Def (KOf KX) mg "is_listed" s_is_listed ["value"] [] := by
      refine' def_mk KX G ?a_33 ?l_33 ?c_33 ?k_33 (fun _ _ _ _ _ _ us hl => match us, hl with | [_], _ => rfl); (case a_33 => walk_at "q_is"); (case l_33 => walk_at "q_is"); (case c_33 => walk_at "q_is"); (case k_33 => walk_at "q_is")
    have d_is_made_of : Def (KOf KX) mg "is_made_of" s_is_made_of ["value", "signs", "most"] [] := by
      refine' def_mk KX G ?a_34 ?l_34 ?c_34 ?k_34 (fun _ _ _ _ _ _ us hl => match us, hl with | [_, _, _], _ => rfl); (case a_34 => walk_at "q_is"); (case l_34 => walk_at "q_is"); (case c_34 => walk_at "q_is"); (case k_34 => walk_at "q_is")
    have d_is_name : Def (KOf KX) mg "is_name" s_is_name ["value"] [] := by
      refine' def_mk KX G ?a_35 ?l_35 ?c_35 ?k_35 (fun _ _ _ _ _ _ us hl => match us, hl with | [_], _ => rfl); (case a_35 => walk_at "q_is"); (case l_35 => walk_at "q_is"); (case c_35 => walk_at "q_is"); (case k_35 => walk_at "q_is")
    have d_is_word : Def (KOf KX) mg "is_word" s_is_word ["value"] [] := by
      refine' def_mk KX G ?a_36 ?l_36 ?c_36 ?k_36 (fun _ _ _ _ _ _ us hl => match us, hl with | [_], _ => rfl); (case a_36 => walk_at "q_is"); (case l_36 => walk_at "q_is"); (case c_36 => walk_at "q_is"); (case k_36 => walk_at "q_is")
    have d_is_quoted : Def (KOf KX) mg "is_quoted" s_is_quoted ["parts"] [] := by
      refine' def_mk KX G ?a_37 ?l_37 ?c_37 ?k_37 (fun _ _ _ _ _ _ us hl => match us, hl with | [_], _ => rfl); (case a_37 => walk_at "q_is"); (case l_37 => walk_at "q_is"); (case c_37 => walk_at "q_is"); (case k_37 => walk_at "q_is")
    have d_is_piece : Def (KOf KX) mg "is_piece" s_is_piece ["value"] [] := by
      refine' def_mk KX G ?a_38 ?l_38 ?c_38 ?k_38 (fun _ _ _ _ _ _ us hl => match us, hl with | [_], _ => rfl); (case a_38 => walk_at "q_is"); (case l_38 => walk_at "q_is"); (case c_38 => walk_at "q_is"); (case k_38 => walk_at "q_is")
    have d_is_body : Def (KOf KX) mg "is_body" s_is_body ["value"] [] := by
      refine' def_mk KX G ?a_39 ?l_39 ?c_39 ?k_39 (fun _ _ _ _ _ _ us hl => match us, hl with | [_], _ => rfl); (case a_39 => walk_at "q_is"); (case l_39 => walk_at "q_is"); (case c_39 => walk_at "q_is"); (case k_39 => walk_at "q_is")
    have d_is_subject_text : Def (KOf KX) mg "is_subject_text" s_is_subject_text ["value"] [] := by
      refine' def_mk KX G ?a_40 ?l_40 ?c_40 ?k_40 (fun _ _ _ _ _ _ us hl => match us, hl with | [_], _ => rfl); (case a_40 => walk_at "q_is"); (case l_40 => walk_at "q_is"); (case c_40 => walk_at "q_is"); (case k_40 => walk_at "q_is")
    have d_is_units : Def (KOf KX) mg "is_units" s_is_units ["value"] [] := by
      refine' def_mk KX G ?a_41 ?l_41 ?c_41 ?k_41 (fun _ _ _ _ _ _ us hl => match us, hl with | [_], _ => rfl); (case a_41 => walk_at "q_is"); (case l_41 => walk_at "q_is"); (case c_41 => walk_at "q_is"); (case k_41 => walk_at "q_is")
    have d_is_truth : Def (KOf KX) mg "is_truth" s_is_truth ["value"] [] := by
      refine' def_mk KX G ?a_42 ?l_42 ?c_42 ?k_42 (fun _ _ _ _ _ _ us hl => match us, hl with | [_], _ => rfl); (case a_42 => walk_at "q_is"); (case l_42 => walk_at "q_is"); (case c_42 => walk_at "q_is"); (case k_42 => walk_at "q_is")
    have d_is_speech : Def (KOf KX) mg "is_speech" s_is_speech ["parts"] [] := by
      refine' def_mk KX G ?a_43 ?l_43 ?c_43 ?k_43 (fun _ _ _ _ _ _ us hl => match us, hl with | [_], _ => rfl); (case a_43 => walk_at "q_is"); (case l_43 => walk_at "q_is"); (case c_43 => walk_at "q_is"); (case k_43 => walk_at "q_is")
    have d_is_post_saying : Def (KOf KX) mg "is_post_saying" s_is_post_saying ["parts"] [] := by
      refine' def_mk KX G ?a_44 ?l_44 ?c_44 ?k_44 (fun _ _ _ _ _ _ us hl => match us, hl with | [_], _ => rfl); (case a_44 => walk_at "q_is"); (case l_44 => walk_at "q_is"); (case c_44 => walk_at "q_is"); (case k_44 => walk_at "q_is")
    have d_is_saying : Def (KOf KX) mg "is_saying" s_is_saying ["value"] [] := by
      refine' def_mk KX G ?a_45 ?l_45 ?c_45 ?k_45 (fun _ _ _ _ _ _ us hl => match us, hl with | [_], _ => rfl); (case a_45 => walk_at "q_is"); (case l_45 => walk_at "q_is"); (case c_45 => walk_at "q_is"); (case k_45 => walk_at "q_is")
    have d_law_pen : Def (KOf KX) mg "_law_pen" s_law_pen ["script"] [] := by
      refine' def_mk KX G ?a_46 ?l_46 ?c_46 ?k_46 (fun _ _ _ _ _ _ us hl => match us, hl with | [_], _ => rfl); (case a_46 => walk_at "q_is"); (case l_46 => walk_at "q_is"); (case c_46 => walk_at "q_is"); (case k_46 => walk_at "q_is")
    have d_law_draw : Def (KOf KX) mg "_law_draw" s_law_draw ["pen", "many"] [] := by
      refine' def_mk KX G ?a_47 ?l_47 ?c_47 ?k_47 (fun _ _ _ _ _ _ us hl => match us, hl with | [_, _], _ => rfl); (case a_47 => walk_at "q_is"); (case l_47 => walk_at "q_is"); (case c_47 => walk_at "q_is"); (case k_47 => walk_at "q_is")
    have d_law_pick : Def (KOf KX) mg "_law_pick" s_law_pick ["pen", "some"] [] := by
      refine' def_mk KX G ?a_48 ?l_48 ?c_48 ?k_48 (fun _ _ _ _ _ _ us hl => match us, hl with | [_, _], _ => rfl); (case a_48 => walk_at "q_is"); (case l_48 => walk_at "q_is"); (case c_48 => walk_at "q_is"); (case k_48 => walk_at "q_is")
    have d_law_shuffled : Def (KOf KX) mg "_law_shuffled" s_law_shuffled ["pen", "some"] [] := by
      refine' def_mk KX G ?a_49 ?l_49 ?c_49 ?k_49 (fun _ _ _ _ _ _ us hl => match us, hl with | [_, _], _ => rfl); (case a_49 => walk_at "q_is"); (case l_49 => walk_at "q_is"); (case c_49 => walk_at "q_is"); (case k_49 => walk_at "q_is")
    have d_law_name : Def (KOf KX) mg "_law_name" s_law_name ["pen", "index"] [] := by
      refine' def_mk KX G ?a_50 ?l_50 ?c_50 ?k_50 (fun _ _ _ _ _ _ us hl => match us, hl with | [_, _], _ => rfl); (case a_50 => walk_at "q_is"); (case l_50 => walk_at "q_is"); (case c_50 => walk_at "q_is"); (case k_50 => walk_at "q_is")
    have d_law_names : Def (KOf KX) mg "_law_names" s_law_names ["pen", "many"] [] := by
      refine' def_mk KX G ?a_51 ?l_51 ?c_51 ?k_51 (fun _ _ _ _ _ _ us hl => match us, hl with | [_, _], _ => rfl); (case a_51 => walk_at "q_is"); (case l_51 => walk_at "q_is"); (case c_51 => walk_at "q_is"); (case k_51 => walk_at "q_is")
    have d_law_some_ladder : Def (KOf KX) mg "_law_some_ladder" s_law_some_ladder ["pen"] [] := by
      refine' def_mk KX G ?a_52 ?l_52 ?c_52 ?k_52 (fun _ _ _ _ _ _ us hl => match us, hl with | [_], _ => rfl); (case a_52 => walk_at "q_is"); (case l_52 => walk_at "q_is"); (case c_52 => walk_at "q_is"); (case k_52 => walk_at "q_is")
    have d_law_some_forum : Def (KOf KX) mg "_law_some_forum" s_law_some_forum ["pen", "names"] [] := by
      refine' def_mk KX G ?a_53 ?l_53 ?c_53 ?k_53 (fun _ _ _ _ _ _ us hl => match us, hl with | [_, _], _ => rfl); (case a_53 => walk_at "q_is"); (case l_53 => walk_at "q_is"); (case c_53 => walk_at "q_is"); (case k_53 => walk_at "q_is")
    have d_law_some_saying : Def (KOf KX) mg "_law_some_saying" s_law_some_saying ["pen", "rows", "names"] [] := by
      refine' def_mk KX G ?a_54 ?l_54 ?c_54 ?k_54 (fun _ _ _ _ _ _ us hl => match us, hl with | [_, _, _], _ => rfl); (case a_54 => walk_at "q_is"); (case l_54 => walk_at "q_is"); (case c_54 => walk_at "q_is"); (case k_54 => walk_at "q_is")
    have d_law_same : Def (KOf KX) mg "_law_same" s_law_same ["told", "due"] [] := by
      refine' def_mk KX G ?a_55 ?l_55 ?c_55 ?k_55 (fun _ _ _ _ _ _ us hl => match us, hl with | [_, _], _ => rfl); (case a_55 => walk_at "q_is"); (case l_55 => walk_at "q_is"); (case c_55 => walk_at "q_is"); (case k_55 => walk_at "q_is")
    have d_law_is_name : Def (KOf KX) mg "_law_is_name" s_law_is_name ["value"] [] := by
      refine' def_mk KX G ?a_56 ?l_56 ?c_56 ?k_56 (fun _ _ _ _ _ _ us hl => match us, hl with | [_], _ => rfl); (case a_56 => walk_at "q_is"); (case l_56 => walk_at "q_is"); (case c_56 => walk_at "q_is"); (case k_56 => walk_at "q_is")
    have d_law_is_whole : Def (KOf KX) mg "_law_is_whole" s_law_is_whole ["value", "low", "high"] [] := by
      refine' def_mk KX G ?a_57 ?l_57 ?c_57 ?k_57 (fun _ _ _ _ _ _ us hl => match us, hl with | [_, _, _], _ => rfl); (case a_57 => walk_at "q_is"); (case l_57 => walk_at "q_is"); (case c_57 => walk_at "q_is"); (case k_57 => walk_at "q_is")
    have d_law_is_subject : Def (KOf KX) mg "_law_is_subject" s_law_is_subject ["value"] [] := by
      refine' def_mk KX G ?a_58 ?l_58 ?c_58 ?k_58 (fun _ _ _ _ _ _ us hl => match us, hl with | [_], _ => rfl); (case a_58 => walk_at "q_is"); (case l_58 => walk_at "q_is"); (case c_58 => walk_at "q_is"); (case k_58 => walk_at "q_is")
    have d_law_is_piece : Def (KOf KX) mg "_law_is_piece" s_law_is_piece ["value"] [] := by
      refine' def_mk KX G ?a_59 ?l_59 ?c_59 ?k_59 (fun _ _ _ _ _ _ us hl => match us, hl with | [_], _ => rfl); (case a_59 => walk_at "q_is"); (case l_59 => walk_at "q_is"); (case c_59 => walk_at "q_is"); (case k_59 => walk_at "q_is")
    have d_law_is_body : Def (KOf KX) mg "_law_is_body" s_law_is_body ["value"] [] := by
      refine' def_mk KX G ?a_60 ?l_60 ?c_60 ?k_60 (fun _ _ _ _ _ _ us hl => match us, hl with | [_], _ => rfl); (case a_60 => walk_at "q_is"); (case l_60 => walk_at "q_is"); (case c_60 => walk_at "q_is"); (case k_60 => walk_at "q_is")
    have d_law_is_saying : Def (KOf KX) mg "_law_is_saying" s_law_is_saying ["value"] [] := by
      refine' def_mk KX G ?a_61 ?l_61 ?c_61 ?k_61 (fun _ _ _ _ _ _ us hl => match us, hl with | [_], _ => rfl); (case a_61 => walk_at "q_is"); (case l_61 => walk_at "q_is"); (case c_61 => walk_at "q_is"); (case k_61 => walk_at "q_is")
    have d_law_some_word : Def (KOf KX) mg "_law_some_word" s_law_some_word ["pen"] [] := by
      refine' def_mk KX G ?a_62 ?l_62 ?c_62 ?k_62 (fun _ _ _ _ _ _ us hl => match us, hl with | [_], _ => rfl); (case a_62 => walk_at "q_is"); (case l_62 => walk_at "q_is"); (case c_62 => walk_at "q_is"); (case k_62 => walk_at "q_is")
    have d_law_some_piece : Def (KOf KX) mg "_law_some_piece" s_law_some_piece ["pen", "names"] [] := by
      refine' def_mk KX G ?a_63 ?l_63 ?c_63 ?k_63 (fun _ _ _ _ _ _ us hl => match us, hl with | [_, _], _ => rfl); (case a_63 => walk_at "q_is"); (case l_63 => walk_at "q_is"); (case c_63 => walk_at "q_is"); (case k_63 => walk_at "q_is")
    have d_law_any_saying : Def (KOf KX) mg "_law_any_saying" s_law_any_saying ["pen", "rows", "names"] [] := by
      refine' def_mk KX G ?a_64 ?l_64 ?c_64 ?k_64 (fun _ _ _ _ _ _ us hl => match us, hl with | [_, _, _], _ => rfl); (case a_64 => walk_at "q_is"); (case l_64 => walk_at "q_is"); (case c_64 => walk_at "q_is"); (case k_64 => walk_at "q_is")
    have d_law_odd : Def (KOf KX) mg "_law_odd" s_law_odd ["pen"] [] := by
      refine' def_mk KX G ?a_65 ?l_65 ?c_65 ?k_65 (fun _ _ _ _ _ _ us hl => match us, hl with | [_], _ => rfl); (case a_65 => walk_at "q_is"); (case l_65 => walk_at "q_is"); (case c_65 => walk_at "q_is"); (case k_65 => walk_at "q_is")
    have d_law_bent : Def (KOf KX) mg "_law_bent" s_law_bent ["pen", "value"] [] := by
      refine' def_mk KX G ?a_66 ?l_66 ?c_66 ?k_66 (fun _ _ _ _ _ _ us hl => match us, hl with | [_, _], _ => rfl); (case a_66 => walk_at "q_is"); (case l_66 => walk_at "q_is"); (case c_66 => walk_at "q_is"); (case k_66 => walk_at "q_is")
    have d_law_alike : Def (KOf KX) mg "_law_alike" s_law_alike ["told", "due"] [] := by
      refine' def_mk KX G ?a_67 ?l_67 ?c_67 ?k_67 (fun _ _ _ _ _ _ us hl => match us, hl with | [_, _], _ => rfl); (case a_67 => walk_at "q_is"); (case l_67 => walk_at "q_is"); (case c_67 => walk_at "q_is"); (case k_67 => walk_at "q_is")
    have d_law_made : Def (KOf KX) mg "_law_made" s_law_made ["account", "number", "saying"] [] := by
      refine' def_mk KX G ?a_68 ?l_68 ?c_68 ?k_68 (fun _ _ _ _ _ _ us hl => match us, hl with | [_, _, _], _ => rfl); (case a_68 => walk_at "q_is"); (case l_68 => walk_at "q_is"); (case c_68 => walk_at "q_is"); (case k_68 => walk_at "q_is")
    have d_law_due : Def (KOf KX) mg "_law_due" s_law_due ["account", "number", "saying"] [] := by
      refine' def_mk KX G ?a_69 ?l_69 ?c_69 ?k_69 (fun _ _ _ _ _ _ us hl => match us, hl with | [_, _, _], _ => rfl); (case a_69 => walk_at "q_is"); (case l_69 => walk_at "q_is"); (case c_69 => walk_at "q_is"); (case k_69 => walk_at "q_is")
    obtain ⟨fd, hb, F⟩ : ∃ fd : FuncData, (∀ (s : Shared) (u : Value), BindsTo s fd ⟨[u], []⟩ [("script", u)]) ∧ FunV (KOf KX) "law" "law" s_law fa fd := by
      refine' law_mk KX G hmg ?a_70 ?l_70 ?c_70 ?k_70 (fun _ _ _ _ _ _ _ => rfl); (case a_70 => walk_at "q_is"); (case l_70 => walk_at "q_is"); (case c_70 => walk_at "q_is"); (case k_70 => walk_at "q_is")
    have d_law : Def (KOf KX) mg "law" s_law ["script"] [] := by
      refine' def_mk KX G ?a_71 ?l_71 ?c_71 ?k_71 (fun _ _ _ _ _ _ us hl => match us, hl with | [_], _ => rfl); (case a_71 => walk_at "q_is"); (case l_71 => walk_at "q_is"); (case c_71 => walk_at "q_is"); (case k_71 => walk_at "q_is")
    have T : Txt (KOf KX) mg a_QUOTING a_SIDES _ _ _ _ _ _ _ _ _ := ⟨b_all, b_bool, b_int, b_isinstance, b_len, b_list, b_min, b_range, b_sorted, b_str, b_tuple, b_zip, g_LETTERS, g_FIGURES, g_LONGEST_WORD, g_QUOTING, t_QUOTING, g_MOST_PIECES, g_MOST_UNITS, g_SIDES, t_SIDES, x_BadName, x_BadNumber, x_BadSaying, z_BadName_BadNumber, z_BadName_BadSaying, z_BadNumber_BadName, z_BadNumber_BadSaying, z_BadSaying_BadName, z_BadSaying_BadNumber, l_Letter⟩
    exact ⟨fd, hb, fun base _ _ => c_law ⟨e_BadName, e_BadNumber, e_BadSaying, e_Letter, h_Letter, d_is_whole, d_is_whole_1, d_is_listed, d_is_made_of, d_is_name, d_is_word, d_is_quoted, d_is_piece, d_is_body, d_is_subject_text, d_is_units, d_is_truth, d_is_speech, d_is_post_saying, d_is_saying, d_law_pen, d_law_draw, d_law_pick, d_law_shuffled, d_law_name, d_law_names, d_law_some_ladder, d_law_some_forum, d_law_some_saying, d_law_same, d_law_is_name, d_law_is_whole, d_law_is_subject, d_law_is_piece, d_law_is_body, d_law_is_saying, d_law_some_word, d_law_some_piece, d_law_any_saying, d_law_odd, d_law_bent, d_law_alike, d_law_made, d_law_due, d_law⟩ T F⟩
