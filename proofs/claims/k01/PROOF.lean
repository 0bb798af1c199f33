import PyProof.Rows.All
import Wide.All
import OpenK.AllK
import Wide.FinOn
import HandS.Base
import HandS.Call
import HandS.List
import HandS.Exc
import HandS.ExcInit
import HandS.ExcField
import HandS.ExcIs
import HandS.ExcValue
import HandS.IsInst
import KE.KExcIs
import HandS.ForMost
import HandS.TupAny
import HandS.Style
import HandS.NoneIn
import HandS.Zip
import PyProof.ReprRoads
import HandS.RaiseMore
import HandS.TupMul
import HandS.Wide
import HandS.ExcOwn
import HandS.CallSlots
import HandS.WordsExc
import HandS.Defaults
import HandS.TryMany
import PySem.Challenge.RW_lentvoices_k01_errors
set_option Elab.async false
set_option linter.all false
set_option maxRecDepth 100000
set_option maxHeartbeats 4000000
/-! ExV: exceptions as values, whatever made them. -/
namespace DL
open PySem PySem.Spec L2
/-- at a stands an exception of the class cls with the dict d -/
def ExK (cls : Value) (d : Option Addr) (a : Addr) : HO := .ext fun h => ∃ (oe : Obj) (vs : Array Value), h.get? a = some oe ∧ Zc cls d oe ∧ oe.data = .fields vs
theorem exK_ok {P : Program} {w : World} {H : Hp} {h : Heap} {a : Addr} {cls : Value} {d : Option Addr} {oe : Obj} {vs : Array Value} (e : h.get? a = some oe) (z : Zc cls d oe) (q : oe.data = .fields vs) : ObjOk P w H h a (ExK cls d a) :=
  ⟨⟨oe, vs, e, z, q⟩, ⟨oe, e⟩, fun _ _ ⟨o, v, x, r⟩ k => ⟨o, v, k o x, r⟩⟩
theorem exK_at {P : Program} {w : World} {H : Hp} {h : Heap} {a : Addr} {cls : Value} {d : Option Addr} (ok : HOk P w H h) (e : H a = some (ExK cls d a)) : ∃ (oe : Obj) (vs : Array Value), h.get? a = some oe ∧ Zc cls d oe ∧ oe.data = .fields vs := by
  have x : ObjOk P w H h a (.ext fun h => ∃ (oe : Obj) (vs : Array Value), h.get? a = some oe ∧ Zc cls d oe ∧ oe.data = .fields vs) := ok a _ e
  exact x.1
section
variable {X : Cx} {e : Expr} {te : TE}
/-- a made exception, kept -/
def tKeep (r : L2.St → Hp → XK → Prop) : TE := fun σ H Q => r σ H fun cls d H' => ∀ a, H' a = none → Q (.ref a) (upd H' a (ExK cls d a))
theorem pe_keep {r : L2.St → Hp → XK → Prop} (h : PMk X e r) : PE X e (tKeep r) := by
  refine ⟨fun pins s σ H Q I t => wpAny_mono (h pins s σ H _ I t) (fun u s1 hu => ?_) fun _ _ x => x⟩
  obtain ⟨a, oe, vs, sI, H', cls, d, rfl, J, k, hne, ha, hz, hd, _, na, os, ag, _, q⟩ := hu
  obtain ⟨hp, g, dr, tk, o1⟩ := s1
  obtain ⟨hp', g', dr', tk', o2⟩ := sI
  cases os
  have J2 : Inv X pins σ (upd H' a (ExK cls d a)) ⟨hp, g', dr', tk, o1⟩ := J.un (t' := tk) (Un.laidN k hne na) (J.hok.laidN k na (exK_ok ha hz hd))
  exact ⟨.ref a, _, ⟨J2.ok, J2.os, ag, J2.base, J2.loc, J2.cell, J2.free, J2.freeC, J2.pin, J2.hok, J2.len⟩, rfl, q a na⟩
/-- v.n, v a kept exception with a dict -/
def tFldK (C : Addr) (n : Str) (te : TE) : TE := fun σ H Q => te σ H fun x H1 => ∃ (a dd : Addr) (fs : List (Str × V)) (v : V), x = .ref a ∧ H1 a = some (ExK (.ref C) (some dd) a) ∧ H1 dd = some (.xd fs) ∧ fs.lookup n = some v ∧ Q v H1
theorem pe_fldK {C : Addr} {n : Str} {pos : Pos} (T : XfC X.K C) (hno : PySem.W.findIn X.K (.ref C) n = some none) (he : PE X e te) (hb : attributeBase e n X.env (eval e X.env) = eval e X.env := by rfl) : PE X (.Attribute e n pos) (tFldK C n te) := by
  refine ⟨fun pins s σ H Q I h => attr_of hb (thn (he.run pins s σ H _ I h) fun u s1 hh => ?_)⟩
  obtain ⟨x, H1, I1, rx, a, dd, fs, v, rfl, ha, hd, l, q⟩ := hh
  cases rx
  obtain ⟨oe, vs, g1, g2, g3⟩ := exK_at I1.hok ha
  have hx : ObjOk X.prog X.w H1 s1.heap dd (.xd fs) := I1.hok dd _ hd
  obtain ⟨mA, hns, hr⟩ := hx
  obtain ⟨od, ho, hl⟩ := lookIn_ns hns
  obtain ⟨u, hu, ru⟩ := RelO.some_of (v := v) (o := mA n) (by rw [← l]; exact hr n)
  have nc : PySem.W.notCls oe := by unfold PySem.W.notCls; rw [g3] <;> rfl
  exact HandSPX.exc_get I1.kIn (od := some od) ⟨g1, g2.1, nc, by rw [g2.2]; exact ho⟩ T.ga T.gg T.exC (PySem.W.findObj_own T.hdC hno rfl (by rw [hl, hu])) (handed_of ru) ⟨v, H1, I1.tok _, ru, q⟩
/-- isinstance(v, c), v a kept exception -/
def rIsK (K : PySem.W.Frag) (D : Addr) : List V → Hp → VK → Prop := fun xs H Q => ∃ (a : Addr) (d : Option Addr) (c : V) (u : Value) (b : Bool), xs = [.ref a, c] ∧ H a = some (ExK (.ref D) d a) ∧ (∀ dd, d = some dd → ∃ fs, H dd = some (.xd fs)) ∧ ClsV c u ∧ PySem.W.kitOne K (.ref D) u = some b ∧ Q (.bl b) H
theorem call_isK {D : Addr} (C : ExcC X.K D) : CallR X (.builtin "isinstance") (rIsK X.K D) := by
  intro pins s σ H xs us Q I r h
  obtain ⟨a, d, c, u, b, rfl, ha, hd, k, e, q⟩ := h
  obtain ⟨u1, u2, rfl, r1, r2⟩ := vals2 r
  cases r1
  have e2 := k.eq r2
  subst e2
  obtain ⟨oe, vs, g1, g2, g3⟩ := exK_at I.hok ha
  have nc : PySem.W.notCls oe := by unfold PySem.W.notCls; rw [g3] <;> rfl
  have hc : (PySem.W.clsIn X.K D).isSome = true := by
    cases z : PySem.W.clsIn X.K D with
    | none => have := C.hd; unfold PySem.W.hasDictIn at this; rw [z] at this; exact this
    | some _ => rfl
  obtain ⟨od, J⟩ : ∃ od, PySem.W.InstAt s.heap a oe D od := by
    cases d with
    | none => exact ⟨none, g1, g2.1, nc, by rw [g2.2]; exact True.intro⟩
    | some dd =>
      obtain ⟨fs, z⟩ := hd dd rfl
      have hx : ObjOk X.prog X.w H s.heap dd (.xd fs) := I.hok dd _ z
      obtain ⟨mA, hns, _⟩ := hx
      obtain ⟨o2, ho, _⟩ := lookIn_ns hns
      exact ⟨some o2, g1, g2.1, nc, by rw [g2.2]; exact ho⟩
  exact PySem.W.kia_one (PySem.W.kitx_exc hc C.hg C.hk C.hs C.ha C.hn C.ht C.hm) I.kIn J e (fun z => nomatch z) fun tk => ⟨.bl b, H, I.tok tk, rfl, q⟩
end
end DL
set_option maxRecDepth 100000
set_option maxHeartbeats 4000000
/-! DL1: data with an abstract heap: D, Rep, Grow, the pen, what an expression gives (Ev), what a statement does (Wp). -/
namespace DL
open PySem L2

/-! ### data -/
inductive D where
  | non | bl (b : Bool) | int (i : Int) | str (s : Str)
  | lst (ds : List D) | tup (ds : List D)
  | dct (ks : List Key) (ds : List D)
  | obj (C : Addr) (ns : List Str) (ds : List D)
  | exc (a dx : Addr) (ns : List Str) (ds : List D)
  | ptr (a : Addr)
  | err (C : Addr) (ns : List Str) (ds : List D)

mutual
inductive Rep (K : PySem.W.Frag) (H : Hp) : V → D → Prop
  | non : Rep K H .non .non
  | bl (b : Bool) : Rep K H (.bl b) (.bl b)
  | int (i : Int) : Rep K H (.int i) (.int i)
  | str (x : Str) : Rep K H (.str x) (.str x)
  | lst {a : Addr} {xs : List V} {ds : List D} : H a = some (.lst xs) → Reps K H xs ds → Rep K H (.ref a) (.lst ds)
  | tup {a : Addr} {xs : List V} {ds : List D} : SqT K H a xs → Reps K H xs ds → Rep K H (.ref a) (.tup ds)
  | dct {a : Addr} {ks : List Key} {xs : List V} {ds : List D} : H a = some (.dK (ks.zip xs)) → ks.length = xs.length → Reps K H xs ds → Rep K H (.ref a) (.dct ks ds)
  | obj {a C dx : Addr} {ns : List Str} {xs : List V} {ds : List D} : H a = some (.ins C dx (ns.zip xs)) → ns.length = xs.length → Reps K H xs ds → Rep K H (.ref a) (.obj C ns ds)
  | exc {a dx : Addr} {ns : List Str} {xs : List V} {ds : List D} : H dx = some (.xd (ns.zip xs)) → ns.length = xs.length → Reps K H xs ds → Rep K H (.ref a) (.exc a dx ns ds)
  | ptr (a : Addr) : Rep K H (.ref a) (.ptr a)
  | err {a C dx : Addr} {ns : List Str} {xs : List V} {ds : List D} : H a = some (ExK (.ref C) (some dx) a) → H dx = some (.xd (ns.zip xs)) → ns.length = xs.length → Reps K H xs ds → Rep K H (.ref a) (.err C ns ds)
  | err0 {a C : Addr} : H a = some (ExK (.ref C) none a) → Rep K H (.ref a) (.err C [] [])
inductive Reps (K : PySem.W.Frag) (H : Hp) : List V → List D → Prop
  | nil : Reps K H [] []
  | cons {v : V} {vs : List V} {d : D} {ds : List D} : Rep K H v d → Reps K H vs ds → Reps K H (v :: vs) (d :: ds)
end

theorem same_sqt {K : PySem.W.Frag} {H H' : Hp} {a : Addr} {xs : List V} (e : Same H H') (h : SqT K H a xs) : SqT K H' a xs := by
  rcases h with (h | ⟨o, h⟩) | h
  · exact .inl (.inl (e _ _ h))
  · exact .inl (.inr ⟨o, e _ _ h⟩)
  · exact .inr h

section
variable {K : PySem.W.Frag} {H H' : Hp}
mutual
theorem Rep.mono (e : Same H H') : ∀ {v : V} {d : D}, Rep K H v d → Rep K H' v d
  | _, _, .non => .non
  | _, _, .bl b => .bl b
  | _, _, .int i => .int i
  | _, _, .str x => .str x
  | _, _, .lst h r => .lst (e _ _ h) (Reps.mono e r)
  | _, _, .tup h r => .tup (same_sqt e h) (Reps.mono e r)
  | _, _, .dct h l r => .dct (e _ _ h) l (Reps.mono e r)
  | _, _, .obj h l r => .obj (e _ _ h) l (Reps.mono e r)
  | _, _, .exc h l r => .exc (e _ _ h) l (Reps.mono e r)
  | _, _, .ptr a => .ptr a
  | _, _, .err h1 h2 l r => .err (e _ _ h1) (e _ _ h2) l (Reps.mono e r)
  | _, _, .err0 h => .err0 (e _ _ h)
theorem Reps.mono (e : Same H H') : ∀ {vs : List V} {ds : List D}, Reps K H vs ds → Reps K H' vs ds
  | _, _, .nil => .nil
  | _, _, .cons h r => .cons (Rep.mono e h) (Reps.mono e r)
end
theorem Reps.length : ∀ {vs : List V} {ds : List D}, Reps K H vs ds → vs.length = ds.length
  | _, _, .nil => rfl
  | _, _, .cons _ r => by rw [List.length_cons, List.length_cons, Reps.length r]
theorem Reps.get : ∀ {vs : List V} {ds : List D} {i : Nat} {d : D}, Reps K H vs ds → ds[i]? = some d → ∃ v, vs[i]? = some v ∧ Rep K H v d
  | _, _, _, _, .nil, e => by simp at e
  | _, _, 0, d, .cons h r, e => by simp at e; subst e; exact ⟨_, rfl, h⟩
  | _, _, i + 1, d, .cons h r, e => by
    obtain ⟨v, h1, h2⟩ := Reps.get (i := i) (d := d) r (by simpa using e)
    exact ⟨v, by simpa using h1, h2⟩
theorem Reps.get' : ∀ {vs : List V} {ds : List D} {i : Nat} {v : V}, Reps K H vs ds → vs[i]? = some v → ∃ d, ds[i]? = some d ∧ Rep K H v d
  | _, _, _, _, .nil, e => by simp at e
  | _, _, 0, d, .cons h r, e => by simp at e; subst e; exact ⟨_, rfl, h⟩
  | _, _, i + 1, d, .cons h r, e => by
    obtain ⟨v, h1, h2⟩ := Reps.get' (i := i) (v := d) r (by simpa using e)
    exact ⟨v, by simpa using h1, h2⟩
theorem Reps.append : ∀ {vs ws : List V} {ds es : List D}, Reps K H vs ds → Reps K H ws es → Reps K H (vs ++ ws) (ds ++ es)
  | _, _, _, _, .nil, s => s
  | _, _, _, _, .cons h r, s => .cons h (Reps.append r s)
theorem Reps.take : ∀ {vs : List V} {ds : List D} (n : Nat), Reps K H vs ds → Reps K H (vs.take n) (ds.take n)
  | _, _, 0, _ => .nil
  | _, _, _ + 1, .nil => .nil
  | _, _, n + 1, .cons h r => .cons h (Reps.take n r)
theorem Reps.drop : ∀ {vs : List V} {ds : List D} (n : Nat), Reps K H vs ds → Reps K H (vs.drop n) (ds.drop n)
  | _, _, 0, r => r
  | _, _, _ + 1, .nil => .nil
  | _, _, n + 1, .cons h r => Reps.drop n r
theorem Reps.set {v : V} {d : D} (h0 : Rep K H v d) : ∀ {vs : List V} {ds : List D} (n : Nat), Reps K H vs ds → Reps K H (vs.set n v) (ds.set n d)
  | _, _, _, .nil => .nil
  | _, _, 0, .cons h r => .cons h0 r
  | _, _, n + 1, .cons h r => .cons h (Reps.set h0 n r)
theorem Reps.erase : ∀ {vs : List V} {ds : List D} (n : Nat), Reps K H vs ds → Reps K H (vs.eraseIdx n) (ds.eraseIdx n)
  | _, _, _, .nil => .nil
  | _, _, 0, .cons h r => r
  | _, _, n + 1, .cons h r => .cons h (Reps.erase n r)
theorem Reps.reverse : ∀ {vs : List V} {ds : List D}, Reps K H vs ds → Reps K H vs.reverse ds.reverse
  | _, _, .nil => .nil
  | _, _, .cons h r => by rw [List.reverse_cons, List.reverse_cons]; exact Reps.append (Reps.reverse r) (.cons h .nil)
theorem reps_ints : ∀ (ns : List Int), Reps K H (ns.map V.int) (ns.map D.int)
  | [] => .nil
  | n :: ns => .cons (.int n) (reps_ints ns)
theorem reps_strs : ∀ (ns : List Str), Reps K H (ns.map V.str) (ns.map D.str)
  | [] => .nil
  | n :: ns => .cons (.str n) (reps_strs ns)
theorem Reps.rep (n : Nat) {vs : List V} {ds : List D} (r : Reps K H vs ds) : Reps K H (List.replicate n vs).flatten (List.replicate n ds).flatten := by
  induction n with
  | zero => exact .nil
  | succ n ih => rw [List.replicate_succ, List.replicate_succ, List.flatten_cons, List.flatten_cons]; exact Reps.append r ih
theorem Reps.of_ints : ∀ {vs : List V} {ns : List Int}, Reps K H vs (ns.map D.int) → vs = ns.map V.int
  | _, [], .nil => rfl
  | _, n :: ns, .cons h r => by
    cases h
    rw [Reps.of_ints r]; rfl
theorem Reps.of_strs : ∀ {vs : List V} {ns : List Str}, Reps K H vs (ns.map D.str) → vs = ns.map V.str
  | _, [], .nil => rfl
  | _, n :: ns, .cons h r => by
    cases h
    rw [Reps.of_strs r]; rfl
theorem Reps.of_bls : ∀ {vs : List V} {ns : List Bool}, Reps K H vs (ns.map D.bl) → vs = ns.map V.bl
  | _, [], .nil => rfl
  | _, n :: ns, .cons h r => by
    cases h
    rw [Reps.of_bls r]; rfl
end

/-! ### growth: Hd holds the data, H all; the object at p (the pen) may change -/
structure Grow (p : Option Addr) (Hd H Hd' H' : Hp) : Prop where
  d : Same Hd Hd'
  h : ∀ b o, p ≠ some b → H b = some o → H' b = some o
  s : Same Hd' H'
  f : ∀ a, H a ≠ none → Hd a = none → Hd' a = none
  m : ∀ a, H a ≠ none → H' a ≠ none
section
variable {p : Option Addr} {Hd H Hd' H' Hd2 H2 : Hp}
theorem Grow.refl (s : Same Hd H) : Grow p Hd H Hd H := ⟨Same.refl _, fun _ _ _ h => h, s, fun _ _ h => h, fun _ h => h⟩
theorem Grow.trans (a : Grow p Hd H Hd' H') (b : Grow p Hd' H' Hd2 H2) : Grow p Hd H Hd2 H2 :=
  ⟨a.d.trans b.d, fun c o n h => b.h c o n (a.h c o n h), b.s, fun c h n => b.f c (a.m c h) (a.f c h n), fun c h => b.m c (a.m c h)⟩
theorem Grow.free (a : Grow p Hd H Hd' H') {l : Addr} (h : H' l = none) : H l = none := by
  cases q : H l with
  | none => rfl
  | some o => exact absurd h (a.m l (by rw [q]; simp))
/-- a new object, which is data -/
theorem Grow.new {a : Addr} {o : HO} (s : Same Hd H) (h : H a = none) : Grow p Hd H (upd Hd a o) (upd H a o) := by
  have hd : Hd a = none := s.free h
  refine ⟨fun b u e => ?_, fun b u _ e => ?_, fun b u e => ?_, fun b e n => ?_, fun b e => ?_⟩
  · rw [upd_ne (ne_of_none e hd)]; exact e
  · rw [upd_ne (ne_of_none e h)]; exact e
  · by_cases q : b = a
    · subst q; rw [upd_same] at e ⊢; exact e
    · rw [upd_ne q] at e ⊢; exact s _ _ e
  · have q : b ≠ a := fun z => by subst z; exact e h
    rw [upd_ne q]; exact n
  · by_cases q : b = a
    · subst q; rw [upd_same]; simp
    · rw [upd_ne q]; exact e
/-- a new object that is no data (as yet) -/
theorem Grow.loc {a : Addr} {o : HO} (s : Same Hd H) (h : H a = none) : Grow p Hd H Hd (upd H a o) := by
  refine ⟨Same.refl _, fun b u _ e => ?_, fun b u e => ?_, fun b e n => n, fun b e => ?_⟩
  · rw [upd_ne (ne_of_none e h)]; exact e
  · rw [upd_ne (ne_of_none (s _ _ e) h)]; exact s _ _ e
  · by_cases q : b = a
    · subst q; rw [upd_same]; simp
    · rw [upd_ne q]; exact e
/-- an object that the entry did not know is written -/
theorem Grow.write {a : Addr} {o : HO} (g : Grow p Hd H Hd' H') (h : H a = none) (hd : Hd' a = none) : Grow p Hd H Hd' (upd H' a o) := by
  refine ⟨g.d, fun b u n e => ?_, fun b u e => ?_, g.f, fun b e => ?_⟩
  · rw [upd_ne (ne_of_none e h)]; exact g.h b u n e
  · rw [upd_ne (ne_of_none e hd)]; exact g.s _ _ e
  · by_cases q : b = a
    · subst q; rw [upd_same]; simp
    · rw [upd_ne q]; exact g.m b e
/-- .. and becomes data -/
theorem Grow.freeze {a : Addr} {o : HO} (s0 : Same Hd H) (g : Grow p Hd H Hd' H') (h : H a = none) (hd : Hd' a = none) (e : H' a = some o) : Grow p Hd H (upd Hd' a o) H' := by
  refine ⟨fun b u q => ?_, g.h, fun b u q => ?_, fun b q n => ?_, g.m⟩
  · rw [upd_ne (ne_of_none (g.d _ _ q) hd)]; exact g.d _ _ q
  · by_cases z : b = a
    · subst z; rw [upd_same] at q; cases q; exact e
    · rw [upd_ne z] at q; exact g.s _ _ q
  · have z : b ≠ a := fun z => by subst z; exact q h
    rw [upd_ne z]; exact g.f b q n
theorem Grow.up (g : Grow none Hd H Hd' H') : Grow p Hd H Hd' H' := ⟨g.d, fun b o _ e => g.h b o (by simp) e, g.s, g.f, g.m⟩
theorem Grow.back (g : Grow p Hd H Hd' H') {a : Addr} (h : Hd a = none) (n : H a ≠ none) : Hd' a = none := g.f a n h
end

/-! ### the pen: its dict at a, its cells at c -/
def LIM : Nat := 1000000000000
def penKvs (c : Addr) (i dg ct fd : Int) : List (Key × V) := [(.inr "cells", .ref c), (.inr "at", .int i), (.inr "digits", .int dg), (.inr "count", .int ct), (.inr "fold", .int fd)]
structure PenAt (n : Nat) (Hd H : Hp) (a c : Addr) : Prop where
  h : ∃ i dg ct fd : Int, H a = some (.dK (penKvs c i dg ct fd)) ∧ 0 ≤ i ∧ 0 ≤ dg ∧ 0 ≤ ct ∧ ct ≤ n ∧ 0 ≤ fd ∧ fd < 2147483587
  d : Hd a = none
  c : ∃ ns : List Int, Hd c = some (.lst (ns.map V.int)) ∧ ns.length ≤ 63
abbrev Pn := Option (Addr × Addr)
abbrev Pn.a (p : Pn) : Option Addr := p.map (·.1)
def PenO : Pn → Nat → Hp → Hp → Prop
  | none, _, _, _ => True
  | some (a, c), n, Hd, H => PenAt n Hd H a c
section
variable {p : Pn} {n m : Nat} {Hd H Hd' H' : Hp}
theorem PenO.more (h : PenO p n Hd H) (e : n ≤ m) : PenO p m Hd H := by
  cases p with
  | none => exact True.intro
  | some q =>
    obtain ⟨⟨i, dg, ct, fd, h1, h2, h3, h4, h5, h6⟩, hd, hc⟩ := h
    exact ⟨⟨i, dg, ct, fd, h1, h2, h3, h4, by omega, h6⟩, hd, hc⟩
theorem PenO.grow (h : PenO p n Hd H) (g : Grow none Hd H Hd' H') : PenO p n Hd' H' := by
  cases p with
  | none => exact True.intro
  | some q =>
    obtain ⟨⟨i, dg, ct, fd, h1, h2⟩, hd, ns, hc, hl⟩ := h
    exact ⟨⟨i, dg, ct, fd, g.h _ _ (by simp) h1, h2⟩, g.f _ (by rw [h1]; simp) hd, ns, g.d _ _ hc, hl⟩
/-- an object beside the pen is written -/
theorem PenO.write {b : Addr} {o : HO} (h : PenO p n Hd H) (e : p.a ≠ some b) : PenO p n Hd (upd H b o) := by
  cases p with
  | none => exact True.intro
  | some q =>
    obtain ⟨⟨i, dg, ct, fd, h1, h2⟩, hd, hc⟩ := h
    refine ⟨⟨i, dg, ct, fd, ?_, h2⟩, hd, hc⟩
    rw [upd_ne (fun z => e (by subst z; rfl))]; exact h1
theorem PenO.freeze {b : Addr} {o : HO} (h : PenO p n Hd H) (e : p.a ≠ some b) (nb : Hd b = none) : PenO p n (upd Hd b o) H := by
  cases p with
  | none => exact True.intro
  | some q =>
    obtain ⟨h1, hd, ns, hc, hl⟩ := h
    refine ⟨h1, ?_, ns, ?_, hl⟩
    · rw [upd_ne (fun z => e (by subst z; rfl))]; exact hd
    · rw [upd_ne (ne_of_none hc nb)]; exact hc
theorem PenO.ne (h : PenO p n Hd H) {b : Addr} {o : HO} (e : Hd b = some o) : p.a ≠ some b := by
  cases p with
  | none => simp
  | some q =>
    intro z
    have z' : q.1 = b := by simpa using z
    subst z'
    have := h.d
    rw [e] at this; cases this
end

/-! ### slots -/
inductive Sk where
  | un | dat (d : D) | own (ds : List D) | ow (a : Addr) (ds : List D) | odk (ks : List Key) (ds : List D) | slf (a C dx : Addr) (ns : List Str) (ds : List D) | pen
def Sk.isOwn : Sk → Bool
  | .own _ => true
  | .ow _ _ => true
  | .odk _ _ => true
  | .slf _ _ _ _ _ => true
  | _ => false
def SkAt (K : PySem.W.Frag) (p : Pn) (Hd H : Hp) (o : Option V) : Sk → Prop
  | .un => True
  | .dat d => ∃ v, o = some v ∧ Rep K Hd v d
  | .own ds => ∃ l vs, o = some (.ref l) ∧ H l = some (.lst vs) ∧ Hd l = none ∧ Reps K Hd vs ds ∧ p.a ≠ some l
  | .ow a ds => ∃ l vs, o = some (.ref l) ∧ H l = some (.lst vs) ∧ l = a ∧ Hd l = none ∧ Reps K Hd vs ds ∧ p.a ≠ some l
  | .odk ks ds => ∃ l vs, o = some (.ref l) ∧ H l = some (.dK (ks.zip vs)) ∧ ks.length = vs.length ∧ Hd l = none ∧ Reps K Hd vs ds ∧ p.a ≠ some l
  | .slf a C dx ns ds => ∃ l vs, o = some (.ref l) ∧ H l = some (.ins C dx (ns.zip vs)) ∧ (ns.length = vs.length ∧ l = a) ∧ Hd l = none ∧ Reps K Hd vs ds ∧ p.a ≠ some l
  | .pen => ∃ a, o = some (.ref a) ∧ p.a = some a
structure SR (K : PySem.W.Frag) (p : Pn) (Hd H : Hp) (σ : St) (Γ : List Sk) : Prop where
  len : σ.length = Γ.length
  ok : ∀ (i : Nat) o k, σ[i]? = some o → Γ[i]? = some k → SkAt K p Hd H o k
  ap : ∀ (i j : Nat) k1 k2 l, i ≠ j → Γ[i]? = some k1 → k1.isOwn = true → Γ[j]? = some k2 → k2.isOwn = true → σ[i]? = some (some (.ref l)) → σ[j]? ≠ some (some (.ref l))
section
variable {K : PySem.W.Frag} {p : Pn} {Hd H Hd' H' : Hp} {σ : St} {Γ : List Sk} {i : Nat}
theorem SkAt.grow {o : Option V} {k : Sk} (g : Grow p.a Hd H Hd' H') (h : SkAt K p Hd H o k) : SkAt K p Hd' H' o k := by
  cases k with
  | un => exact True.intro
  | dat d => obtain ⟨v, e, r⟩ := h; exact ⟨v, e, r.mono g.d⟩
  | own ds => obtain ⟨l, vs, e, h1, h2, r, ne⟩ := h; exact ⟨l, vs, e, g.h _ _ ne h1, g.f _ (by rw [h1]; simp) h2, r.mono g.d, ne⟩
  | ow a ds => obtain ⟨l, vs, e, h1, hl, h2, r, ne⟩ := h; exact ⟨l, vs, e, g.h _ _ ne h1, hl, g.f _ (by rw [h1]; simp) h2, r.mono g.d, ne⟩
  | odk ks ds => obtain ⟨l, vs, e, h1, hl, h2, r, ne⟩ := h; exact ⟨l, vs, e, g.h _ _ ne h1, hl, g.f _ (by rw [h1]; simp) h2, r.mono g.d, ne⟩
  | slf a C dx ns ds => obtain ⟨l, vs, e, h1, hl, h2, r, ne⟩ := h; exact ⟨l, vs, e, g.h _ _ ne h1, hl, g.f _ (by rw [h1]; simp) h2, r.mono g.d, ne⟩
  | pen => exact h
theorem SR.grow (s : SR K p Hd H σ Γ) (g : Grow p.a Hd H Hd' H') : SR K p Hd' H' σ Γ := ⟨s.len, fun i o k h1 h2 => (s.ok i o k h1 h2).grow g, s.ap⟩
theorem SR.get (s : SR K p Hd H σ Γ) {k : Sk} (h : Γ[i]? = some k) : ∃ o, σ[i]? = some o ∧ SkAt K p Hd H o k := by
  have hl : i < σ.length := by rw [s.len]; exact (List.getElem?_eq_some_iff.mp h).1
  exact ⟨σ[i], by simp [hl], s.ok i _ k (by simp [hl]) h⟩
theorem SR.dat (s : SR K p Hd H σ Γ) {d : D} (h : Γ[i]? = some (.dat d)) : ∃ v, σ[i]? = some (some v) ∧ Rep K Hd v d := by
  obtain ⟨o, e, v, rfl, r⟩ := s.get h
  exact ⟨v, e, r⟩
/-- a slot that owns nothing is stored -/
theorem SR.set (s : SR K p Hd H σ Γ) {o : Option V} {k : Sk} (h : SkAt K p Hd H o k) (n : k.isOwn = false) : SR K p Hd H (σ.set i o) (Γ.set i k) := by
  refine ⟨by rw [List.length_set, List.length_set]; exact s.len, fun j o' k' h1 h2 => ?_, fun j j' k1 k2 l ne h1 o1 h2 o2 e1 e2 => ?_⟩
  · by_cases e : i = j
    · subst e
      rw [List.getElem?_set_self'] at h1 h2
      cases q1 : σ[i]? with
      | none => rw [q1] at h1; simp at h1
      | some _ =>
        cases q2 : Γ[i]? with
        | none => rw [q2] at h2; simp at h2
        | some _ =>
          rw [q1] at h1; rw [q2] at h2
          simp at h1 h2
          subst h1; subst h2
          exact h
    · rw [List.getElem?_set_ne e] at h1 h2
      exact s.ok j _ _ h1 h2
  · have a1 : i ≠ j := fun e => by
      subst e
      rw [List.getElem?_set_self'] at h1
      cases q2 : Γ[i]? with
      | none => rw [q2] at h1; simp at h1
      | some _ => rw [q2] at h1; simp at h1; subst h1; rw [n] at o1; cases o1
    have a2 : i ≠ j' := fun e => by
      subst e
      rw [List.getElem?_set_self'] at h2
      cases q2 : Γ[i]? with
      | none => rw [q2] at h2; simp at h2
      | some _ => rw [q2] at h2; simp at h2; subst h2; rw [n] at o2; cases o2
    rw [List.getElem?_set_ne a1] at h1 e1
    rw [List.getElem?_set_ne a2] at h2 e2
    exact s.ap j j' k1 k2 l ne h1 o1 h2 o2 e1 e2
/-- slots are forgotten -/
theorem SR.weak (s : SR K p Hd H σ Γ) {σ' : St} {Γ' : List Sk} (hl : σ'.length = Γ'.length) (w : ∀ (i : Nat) k, Γ'[i]? = some k → k = .un ∨ (Γ[i]? = some k ∧ σ'[i]? = σ[i]?)) : SR K p Hd H σ' Γ' := by
  refine ⟨hl, fun i o k h1 h2 => ?_, fun i j k1 k2 l ne h1 o1 h2 o2 e1 => ?_⟩
  · rcases w i k h2 with rfl | ⟨e1, e2⟩
    · exact True.intro
    · exact s.ok i o k (e2 ▸ h1) e1
  · rcases w i k1 h1 with rfl | ⟨a1, a2⟩
    · cases o1
    · rcases w j k2 h2 with rfl | ⟨b1, b2⟩
      · cases o2
      · rw [b2]; rw [a2] at e1
        exact s.ap i j k1 k2 l ne a1 o1 b1 o2 e1
end
end DL
set_option maxRecDepth 100000
set_option maxHeartbeats 4000000
/-! DL2: what an expression gives: Ev (no slot changes), EvM (owned slots may change). -/
namespace DL
open PySem L2

/-- where one stands: the text, the pen, what is wished of exceptions, which ones may leave -/
structure Ct where
  K : PySem.W.Frag
  p : Pn
  E : XK
  χ : Addr → List (Str × D) → Prop
def XAt (K : PySem.W.Frag) (Hd H : Hp) (dx : Addr) (fs : List (Str × D)) : Prop := ∃ xs : List V, Hd dx = some (.xd ((fs.map (·.1)).zip xs)) ∧ Reps K Hd xs (fs.map (·.2))
def Xs (c : Ct) (Hd H : Hp) : Prop := ∀ C dx fs Hd' H', Grow c.p.a Hd H Hd' H' → c.χ C fs → XAt c.K Hd' H' dx fs → c.E (.ref C) (some dx) H'
theorem Xs.grow {c : Ct} {Hd H Hd' H' : Hp} (x : Xs c Hd H) (g : Grow c.p.a Hd H Hd' H') : Xs c Hd' H' := fun C dx fs _ _ g' h k => x C dx fs _ _ (g.trans g') h k

def Ev (c : Ct) (te : TE) (Γ : List Sk) (m : Nat) (φ : D → Prop) : Prop := ∀ σ Hd H n, SR c.K c.p Hd H σ Γ → Same Hd H → PenO c.p n Hd H → n + m ≤ LIM → Xs c Hd H → ∀ Q : VK,
  (∀ v d Hd' H', Grow c.p.a Hd H Hd' H' → PenO c.p (n + m) Hd' H' → φ d → Rep c.K Hd' v d → Q v H') → te σ H Q
def EvB (c : Ct) (tt : TT) (Γ : List Sk) (m : Nat) (β : Bool → Prop) : Prop := ∀ σ Hd H n, SR c.K c.p Hd H σ Γ → Same Hd H → PenO c.p n Hd H → n + m ≤ LIM → Xs c Hd H → ∀ Q : Bool → Hp → Prop,
  (∀ b Hd' H', Grow c.p.a Hd H Hd' H' → PenO c.p (n + m) Hd' H' → β b → Q b H') → tt σ H Q
def EvA (c : Ct) (ta : TA) (Γ : List Sk) (m : Nat) (ψ : List D → Prop) : Prop := ∀ σ Hd H n, SR c.K c.p Hd H σ Γ → Same Hd H → PenO c.p n Hd H → n + m ≤ LIM → Xs c Hd H → ∀ Q : List V → Hp → Prop,
  (∀ vs ds Hd' H', Grow c.p.a Hd H Hd' H' → PenO c.p (n + m) Hd' H' → ψ ds → Reps c.K Hd' vs ds → Q vs H') → ta σ H Q
/-- an optional part of a slice -/
def EvO (c : Ct) (to : TO) (Γ : List Sk) (m : Nat) (ω : Option Int → Prop) : Prop := ∀ σ Hd H n, SR c.K c.p Hd H σ Γ → Same Hd H → PenO c.p n Hd H → n + m ≤ LIM → Xs c Hd H → ∀ Q : Option Int → Hp → Prop,
  (∀ o Hd' H', Grow c.p.a Hd H Hd' H' → PenO c.p (n + m) Hd' H' → ω o → Q o H') → to σ H Q
/-- operations by values -/
def Op2 (c : Ct) (r : R2) (a b : D) (φ : D → Prop) : Prop := ∀ x y Hd H, Same Hd H → Rep c.K Hd x a → Rep c.K Hd y b → ∀ Q : VK, (∀ v d Hd' H', Grow none Hd H Hd' H' → φ d → Rep c.K Hd' v d → Q v H') → r x y H Q
def Op1 (c : Ct) (r : V → Hp → VK → Prop) (a : D) (φ : D → Prop) : Prop := ∀ x Hd H, Same Hd H → Rep c.K Hd x a → ∀ Q : VK, (∀ v d Hd' H', Grow none Hd H Hd' H' → φ d → Rep c.K Hd' v d → Q v H') → r x H Q
def OpN (c : Ct) (r : List V → Hp → VK → Prop) (as : List D) (φ : D → Prop) : Prop := ∀ xs Hd H, Same Hd H → Reps c.K Hd xs as → ∀ Q : VK, (∀ v d Hd' H', Grow none Hd H Hd' H' → φ d → Rep c.K Hd' v d → Q v H') → r xs H Q

section
variable {c : Ct} {Γ : List Sk} {m m1 m2 m3 : Nat} {φ ψ φ1 φ2 φ3 : D → Prop} {β β1 β2 : Bool → Prop} {ta tb te tx : TE} {t u : TT} {r : R2}

theorem Ev.imp (h : Ev c te Γ m φ) (e : ∀ d, φ d → ψ d) : Ev c te Γ m ψ := fun σ Hd H n s sa pe l x Q q => h σ Hd H n s sa pe l x Q fun v d Hd' H' g pe' f => q v d Hd' H' g pe' (e d f)
theorem Ev.more (h : Ev c te Γ m φ) (e : m ≤ m1) : Ev c te Γ m1 φ := fun σ Hd H n s sa pe l x Q q => h σ Hd H n s sa pe (by omega) x Q fun v d Hd' H' g pe' f => q v d Hd' H' g (pe'.more (by omega)) f
theorem EvB.imp (h : EvB c t Γ m β) (e : ∀ d, β d → β1 d) : EvB c t Γ m β1 := fun σ Hd H n s sa pe l x Q q => h σ Hd H n s sa pe l x Q fun v Hd' H' g pe' f => q v Hd' H' g pe' (e v f)
theorem EvB.more (h : EvB c t Γ m β) (e : m ≤ m1) : EvB c t Γ m1 β := fun σ Hd H n s sa pe l x Q q => h σ Hd H n s sa pe (by omega) x Q fun v Hd' H' g pe' f => q v Hd' H' g (pe'.more (by omega)) f
theorem EvA.imp {ta : TA} {ψ1 ψ2 : List D → Prop} (h : EvA c ta Γ m ψ1) (e : ∀ d, ψ1 d → ψ2 d) : EvA c ta Γ m ψ2 := fun σ Hd H n s sa pe l x Q q => h σ Hd H n s sa pe l x Q fun v d Hd' H' g pe' f => q v d Hd' H' g pe' (e d f)
theorem EvA.more {ta : TA} {ψ1 : List D → Prop} (h : EvA c ta Γ m ψ1) (e : m ≤ m1) : EvA c ta Γ m1 ψ1 := fun σ Hd H n s sa pe l x Q q => h σ Hd H n s sa pe (by omega) x Q fun v d Hd' H' g pe' f => q v d Hd' H' g (pe'.more (by omega)) f
theorem Ev.to {d e : D} (h : Ev c te Γ m (· = d)) (q : d = e) : Ev c te Γ m (· = e) := q ▸ h
theorem EvB.to {d e : Bool} (h : EvB c t Γ m (· = d)) (q : d = e) : EvB c t Γ m (· = e) := q ▸ h

/-! names, constants -/
theorem ev_var {i : Nat} {d : D} (h : Γ[i]? = some (.dat d)) : Ev c (tVar i) Γ 0 (· = d) := fun σ Hd H n s sa pe l x Q q => by
  obtain ⟨v, e, r⟩ := s.dat h
  exact ⟨v, e, q v d Hd H (.refl sa) pe rfl r⟩
theorem ev_int {i : Int} : Ev c (tC (.int i)) Γ 0 (· = .int i) := fun σ Hd H n s sa pe l x Q q => q _ _ Hd H (.refl sa) pe rfl (.int i)
theorem ev_bl {i : Bool} : Ev c (tC (.bl i)) Γ 0 (· = .bl i) := fun σ Hd H n s sa pe l x Q q => q _ _ Hd H (.refl sa) pe rfl (.bl i)
theorem ev_str {i : Str} : Ev c (tC (.str i)) Γ 0 (· = .str i) := fun σ Hd H n s sa pe l x Q q => q _ _ Hd H (.refl sa) pe rfl (.str i)
theorem ev_non : Ev c (tC .non) Γ 0 (· = .non) := fun σ Hd H n s sa pe l x Q q => q _ _ Hd H (.refl sa) pe rfl .non
/-- a tuple of the module -/
theorem ev_ktup {a : Addr} {xs : List V} {ds : List D} (h : ∀ H, SqT c.K H a xs) (r : ∀ H, Reps c.K H xs ds) : Ev c (tC (.ref a)) Γ 0 (· = .tup ds) := fun σ Hd H n s sa pe l x Q q => q _ _ Hd H (.refl sa) pe rfl (.tup (h Hd) (r Hd))

/-! operations -/
theorem ev_op (ha : Ev c ta Γ m1 φ1) (hb : Ev c tb Γ m2 φ2) (h : ∀ a b, φ1 a → φ2 b → Op2 c r a b φ) : Ev c (tOp r ta tb) Γ (m1 + m2) φ := fun σ Hd H n s sa pe l x Q q =>
  ha σ Hd H n s sa pe (by omega) x _ fun v a Hd1 H1 g1 pe1 f1 r1 => hb σ Hd1 H1 (n + m1) (s.grow g1) g1.s pe1 (by omega) (x.grow g1) _ fun w b Hd2 H2 g2 pe2 f2 r2 =>
    h a b f1 f2 v w Hd2 H2 g2.s (r1.mono g2.d) r2 Q fun z d Hd3 H3 g3 f3 r3 => q z d Hd3 H3 ((g1.trans g2).trans g3.up) (by rw [← Nat.add_assoc]; exact pe2.grow g3) f3 r3
theorem ev_un {r : V → Hp → VK → Prop} (ha : Ev c ta Γ m φ1) (h : ∀ a, φ1 a → Op1 c r a φ) : Ev c (tUn r ta) Γ m φ := fun σ Hd H n s sa pe l x Q q =>
  ha σ Hd H n s sa pe l x _ fun v a Hd1 H1 g1 pe1 f1 r1 => h a f1 v Hd1 H1 g1.s r1 Q fun z d Hd3 H3 g3 f3 r3 => q z d Hd3 H3 (g1.trans g3.up) (pe1.grow g3) f3 r3
/-- exact forms -/
theorem ev_op_ {a b d : D} (ha : Ev c ta Γ m1 (· = a)) (hb : Ev c tb Γ m2 (· = b)) (h : Op2 c r a b (· = d)) : Ev c (tOp r ta tb) Γ (m1 + m2) (· = d) := ev_op ha hb fun _ _ e1 e2 => by subst e1; subst e2; exact h

/-! arguments, displays -/
theorem ea_nil : EvA c tNil Γ 0 (· = []) := fun σ Hd H n s sa pe l x Q q => q [] [] Hd H (.refl sa) pe rfl .nil
theorem ea_cons {tr : TA} {ψ1 : List D → Prop} (h : Ev c ta Γ m1 φ1) (hr : EvA c tr Γ m2 ψ1) : EvA c (tCons ta tr) Γ (m1 + m2) (fun ds => ∃ d es, ds = d :: es ∧ φ1 d ∧ ψ1 es) := fun σ Hd H n s sa pe l x Q q =>
  h σ Hd H n s sa pe (by omega) x _ fun v a Hd1 H1 g1 pe1 f1 r1 => hr σ Hd1 H1 (n + m1) (s.grow g1) g1.s pe1 (by omega) (x.grow g1) _ fun w b Hd2 H2 g2 pe2 f2 r2 =>
    q (v :: w) (a :: b) Hd2 H2 (g1.trans g2) (by rw [← Nat.add_assoc]; exact pe2) ⟨a, b, rfl, f1, f2⟩ (.cons (r1.mono g2.d) r2)
theorem ea_cons_ {tr : TA} {d : D} {ds : List D} (h : Ev c ta Γ m1 (· = d)) (hr : EvA c tr Γ m2 (· = ds)) : EvA c (tCons ta tr) Γ (m1 + m2) (· = d :: ds) :=
  (ea_cons h hr).imp fun _ ⟨a, b, e, e1, e2⟩ => by rw [e, e1, e2]
theorem ev_tup {ta : TA} {ψ1 : List D → Prop} (h : EvA c ta Γ m ψ1) (hl : ∀ ds, ψ1 ds → ds.length ≤ 1000) : Ev c (tTup ta) Γ m (fun d => ∃ ds, d = .tup ds ∧ ψ1 ds) := fun σ Hd H n s sa pe l x Q q =>
  h σ Hd H n s sa pe l x _ fun vs ds Hd1 H1 g1 pe1 f1 r1 => ⟨Nat.le_of_lt (small1000 (by rw [r1.length]; exact hl ds f1)), fun a ha => by
    have g := Grow.new (p := none) (o := HO.tup vs) g1.s ha
    exact q (.ref a) (.tup ds) _ _ (g1.trans g.up) (pe1.grow g) ⟨ds, rfl, f1⟩ (.tup (SqT.of upd_same) (r1.mono g.d))⟩
theorem ev_tup_ {ta : TA} {ds : List D} (h : EvA c ta Γ m (· = ds)) (hl : ds.length ≤ 1000 := by first | decide | simp) : Ev c (tTup ta) Γ m (· = .tup ds) := (ev_tup h fun _ e => by rw [e]; exact hl).imp fun _ ⟨ds, e, e2⟩ => by rw [e, e2]
theorem ev_lst {ta : TA} {ψ1 : List D → Prop} (h : EvA c ta Γ m ψ1) (hl : ∀ ds, ψ1 ds → ds.length ≤ 1000) : Ev c (tLst ta) Γ m (fun d => ∃ ds, d = .lst ds ∧ ψ1 ds) := fun σ Hd H n s sa pe l x Q q =>
  h σ Hd H n s sa pe l x _ fun vs ds Hd1 H1 g1 pe1 f1 r1 => ⟨Nat.le_of_lt (small1000 (by rw [r1.length]; exact hl ds f1)), fun a ha => by
    have g := Grow.new (p := none) (o := HO.lst vs) g1.s ha
    exact q (.ref a) (.lst ds) _ _ (g1.trans g.up) (pe1.grow g) ⟨ds, rfl, f1⟩ (.lst upd_same (r1.mono g.d))⟩
theorem ev_lst_ {ta : TA} {ds : List D} (h : EvA c ta Γ m (· = ds)) (hl : ds.length ≤ 1000 := by first | decide | simp) : Ev c (tLst ta) Γ m (· = .lst ds) := (ev_lst h fun _ e => by rw [e]; exact hl).imp fun _ ⟨ds, e, e2⟩ => by rw [e, e2]

/-! tests -/
theorem eb_test (h : Ev c te Γ m (fun d => ∃ b, d = .bl b ∧ β b)) : EvB c (tTest te) Γ m β := fun σ Hd H n s sa pe l x Q q =>
  h σ Hd H n s sa pe l x _ fun v d Hd1 H1 g1 pe1 ⟨b, e, f⟩ r1 => by subst e; cases r1; exact ⟨b, rfl, q b Hd1 H1 g1 pe1 f⟩
theorem eb_test_ {b : Bool} (h : Ev c te Γ m (· = .bl b)) : EvB c (tTest te) Γ m (· = b) := eb_test (h.imp fun _ e => ⟨b, e, rfl⟩)
theorem eb_B (h : Ev c te Γ m (fun d => ∃ b, d = .bl b ∧ β b)) : EvB c (tB te) Γ m β := fun σ Hd H n s sa pe l x Q q =>
  h σ Hd H n s sa pe l x _ fun v d Hd1 H1 g1 pe1 ⟨b, e, f⟩ r1 => by subst e; cases r1; exact ⟨b, rfl, q b Hd1 H1 g1 pe1 f⟩
theorem eb_B_ {b : Bool} (h : Ev c te Γ m (· = .bl b)) : EvB c (tB te) Γ m (· = b) := eb_B (h.imp fun _ e => ⟨b, e, rfl⟩)
theorem eb_not (h : EvB c t Γ m β1) : EvB c (tNot t) Γ m (fun b => β1 (!b)) := fun σ Hd H n s sa pe l x Q q =>
  h σ Hd H n s sa pe l x _ fun b Hd1 H1 g1 pe1 f => q (!b) Hd1 H1 g1 pe1 (by show β1 (!(!b)); rw [Bool.not_not]; exact f)
theorem eb_not_ {b : Bool} (h : EvB c t Γ m (· = b)) : EvB c (tNot t) Γ m (· = !b) := (eb_not h).imp fun d e => by rw [← e, Bool.not_not]
theorem eb_and (h : EvB c t Γ m1 β1) (h2 : β1 true → EvB c u Γ m2 β) (h3 : β1 false → β false) : EvB c (tAnd t u) Γ (m1 + m2) β := fun σ Hd H n s sa pe l x Q q =>
  h σ Hd H n s sa pe (by omega) x _ fun b Hd1 H1 g1 pe1 f => by
    cases b with
    | true =>
      refine h2 f σ Hd1 H1 (n + m1) (s.grow g1) g1.s pe1 (by omega) (x.grow g1) _ fun b Hd2 H2 g2 pe2 f2 => ?_
      exact q b Hd2 H2 (g1.trans g2) (by rw [← Nat.add_assoc]; exact pe2) f2
    | false => exact q false Hd1 H1 g1 (pe1.more (by omega)) (h3 f)
theorem eb_or (h : EvB c t Γ m1 β1) (h2 : β1 false → EvB c u Γ m2 β) (h3 : β1 true → β true) : EvB c (tOr t u) Γ (m1 + m2) β := fun σ Hd H n s sa pe l x Q q =>
  h σ Hd H n s sa pe (by omega) x _ fun b Hd1 H1 g1 pe1 f => by
    cases b with
    | false =>
      refine h2 f σ Hd1 H1 (n + m1) (s.grow g1) g1.s pe1 (by omega) (x.grow g1) _ fun b Hd2 H2 g2 pe2 f2 => ?_
      exact q b Hd2 H2 (g1.trans g2) (by rw [← Nat.add_assoc]; exact pe2) f2
    | true => exact q true Hd1 H1 g1 (pe1.more (by omega)) (h3 f)
theorem eb_and_ {a b : Bool} (h : EvB c t Γ m1 (· = a)) (h2 : a = true → EvB c u Γ m2 (· = b)) : EvB c (tAnd t u) Γ (m1 + m2) (· = (a && b)) := eb_and h (fun e => (h2 e.symm).imp fun d q => by rw [q, ← e]; rfl) fun e => by rw [← e]; rfl
theorem eb_or_ {a b : Bool} (h : EvB c t Γ m1 (· = a)) (h2 : a = false → EvB c u Γ m2 (· = b)) : EvB c (tOr t u) Γ (m1 + m2) (· = (a || b)) := eb_or h (fun e => (h2 e.symm).imp fun d q => by rw [q, ← e]; rfl) fun e => by rw [← e]; rfl
/-- .. as values -/
theorem ev_andV (h : Ev c ta Γ m1 (fun d => ∃ b, d = .bl b ∧ β b)) (h2 : β true → Ev c tb Γ m2 φ) (h3 : β false → φ (.bl false)) : Ev c (tAndV ta tb) Γ (m1 + m2) φ := fun σ Hd H n s sa pe l x Q q =>
  h σ Hd H n s sa pe (by omega) x _ fun v d Hd1 H1 g1 pe1 ⟨b, e, f⟩ r1 => by
    subst e; cases r1
    refine ⟨b, rfl, ?_⟩
    cases b with
    | true =>
      refine h2 f σ Hd1 H1 (n + m1) (s.grow g1) g1.s pe1 (by omega) (x.grow g1) _ fun v d Hd2 H2 g2 pe2 f2 r2 => ?_
      exact q v d Hd2 H2 (g1.trans g2) (by rw [← Nat.add_assoc]; exact pe2) f2 r2
    | false => exact q _ _ Hd1 H1 g1 (pe1.more (by omega)) (h3 f) (.bl false)
theorem ev_orV (h : Ev c ta Γ m1 (fun d => ∃ b, d = .bl b ∧ β b)) (h2 : β false → Ev c tb Γ m2 φ) (h3 : β true → φ (.bl true)) : Ev c (tOrV ta tb) Γ (m1 + m2) φ := fun σ Hd H n s sa pe l x Q q =>
  h σ Hd H n s sa pe (by omega) x _ fun v d Hd1 H1 g1 pe1 ⟨b, e, f⟩ r1 => by
    subst e; cases r1
    refine ⟨b, rfl, ?_⟩
    cases b with
    | false =>
      refine h2 f σ Hd1 H1 (n + m1) (s.grow g1) g1.s pe1 (by omega) (x.grow g1) _ fun v d Hd2 H2 g2 pe2 f2 r2 => ?_
      exact q v d Hd2 H2 (g1.trans g2) (by rw [← Nat.add_assoc]; exact pe2) f2 r2
    | true => exact q _ _ Hd1 H1 g1 (pe1.more (by omega)) (h3 f) (.bl true)
theorem ev_andV_ {a b : Bool} (h : Ev c ta Γ m1 (· = .bl a)) (h2 : a = true → Ev c tb Γ m2 (· = .bl b)) : Ev c (tAndV ta tb) Γ (m1 + m2) (· = .bl (a && b)) :=
  ev_andV (β := (· = a)) (h.imp fun _ e => ⟨a, e, rfl⟩) (fun e => (h2 e.symm).imp fun d q => by rw [q, ← e]; rfl) fun e => by rw [← e]; rfl
theorem ev_orV_ {a b : Bool} (h : Ev c ta Γ m1 (· = .bl a)) (h2 : a = false → Ev c tb Γ m2 (· = .bl b)) : Ev c (tOrV ta tb) Γ (m1 + m2) (· = .bl (a || b)) :=
  ev_orV (β := (· = a)) (h.imp fun _ e => ⟨a, e, rfl⟩) (fun e => (h2 e.symm).imp fun d q => by rw [q, ← e]; rfl) fun e => by rw [← e]; rfl
theorem ev_notV_ {a : Bool} (h : Ev c ta Γ m (· = .bl a)) : Ev c (tNotV ta) Γ m (· = .bl (!a)) := fun σ Hd H n s sa pe l x Q q =>
  h σ Hd H n s sa pe l x _ fun v d Hd1 H1 g1 pe1 e r1 => by subst e; cases r1; exact ⟨a, rfl, q _ _ Hd1 H1 g1 pe1 rfl (.bl _)⟩
theorem ev_if (h : EvB c t Γ m1 β) (h1 : β true → Ev c ta Γ m2 φ) (h2 : β false → Ev c tb Γ m2 φ) : Ev c (tIf t ta tb) Γ (m1 + m2) φ := fun σ Hd H n s sa pe l x Q q =>
  h σ Hd H n s sa pe (by omega) x _ fun b Hd1 H1 g1 pe1 f => by
    cases b with
    | true =>
      refine h1 f σ Hd1 H1 (n + m1) (s.grow g1) g1.s pe1 (by omega) (x.grow g1) _ fun v d Hd2 H2 g2 pe2 f2 r2 => ?_
      exact q v d Hd2 H2 (g1.trans g2) (by rw [← Nat.add_assoc]; exact pe2) f2 r2
    | false =>
      refine h2 f σ Hd1 H1 (n + m1) (s.grow g1) g1.s pe1 (by omega) (x.grow g1) _ fun v d Hd2 H2 g2 pe2 f2 r2 => ?_
      exact q v d Hd2 H2 (g1.trans g2) (by rw [← Nat.add_assoc]; exact pe2) f2 r2
theorem ev_if_ {b : Bool} {d e : D} (h : EvB c t Γ m1 (· = b)) (h1 : b = true → Ev c ta Γ m2 (· = d)) (h2 : b = false → Ev c tb Γ m2 (· = e)) : Ev c (tIf t ta tb) Γ (m1 + m2) (· = if b = true then d else e) :=
  ev_if h (fun q => (h1 q.symm).imp fun _ z => by rw [z, ← q]; rfl) (fun q => (h2 q.symm).imp fun _ z => by rw [z, ← q]; rfl)

/-! slices -/
theorem eo_none : EvO c tNoPart Γ 0 (· = none) := fun σ Hd H n s sa pe l x Q q => q none Hd H (.refl sa) pe rfl
theorem eo_some {i : Int} (h : Ev c te Γ m (· = .int i)) : EvO c (tPart te) Γ m (· = some i) := fun σ Hd H n s sa pe l x Q q =>
  h σ Hd H n s sa pe l x _ fun v d Hd1 H1 g1 pe1 e r1 => by subst e; cases r1; exact ⟨i, rfl, q _ Hd1 H1 g1 pe1 rfl⟩
theorem eo_someG {ι : Int → Prop} (h : Ev c te Γ m (fun d => ∃ i, d = .int i ∧ ι i)) : EvO c (tPart te) Γ m (fun o => ∃ i, o = some i ∧ ι i) := fun σ Hd H n s sa pe l x Q q =>
  h σ Hd H n s sa pe l x _ fun v d Hd1 H1 g1 pe1 ⟨i, e, f⟩ r1 => by subst e; cases r1; exact ⟨i, rfl, q _ Hd1 H1 g1 pe1 ⟨i, rfl, f⟩⟩
end
end DL
set_option maxRecDepth 100000
set_option maxHeartbeats 4000000
/-! DL3: what is walked, comprehensions, promises and calls. -/
namespace DL
open PySem L2

/-! ### slots by several -/
def setD (Γ : List Sk) : List (Nat × D) → List Sk
  | [] => Γ
  | (i, d) :: ps => setD (Γ.set i (.dat d)) ps
def wipeG (Γ : List Sk) : List Nat → List Sk
  | [] => Γ
  | v :: vs => (wipeG Γ vs).set v .un
theorem wipeG_length (Γ : List Sk) : ∀ vs, (wipeG Γ vs).length = Γ.length
  | [] => rfl
  | v :: vs => by rw [wipeG, List.length_set, wipeG_length Γ vs]
theorem wipe_at (σ : St) (vs : List Nat) (j : Nat) : (wipe σ vs)[j]? = if j ∈ vs then σ[j]?.map (fun _ => none) else σ[j]? := by
  induction vs with
  | nil => rw [if_neg (by simp)]; rfl
  | cons v vs ih =>
    rw [wipe]
    by_cases e : v = j
    · subst e
      rw [if_pos List.mem_cons_self]
      by_cases h : v < σ.length
      · rw [List.getElem?_set_self (by rw [wipe_length]; exact h), List.getElem?_eq_getElem h]; rfl
      · rw [List.getElem?_eq_none (by rw [List.length_set, wipe_length]; omega), List.getElem?_eq_none (by omega)]; rfl
    · rw [List.getElem?_set_ne e, ih]
      have e' : ¬ j = v := fun z => e z.symm
      by_cases h : j ∈ vs
      · rw [if_pos h, if_pos (List.mem_cons_of_mem _ h)]
      · rw [if_neg h, if_neg (by simp [h, e'])]
theorem wipeG_at (Γ : List Sk) (vs : List Nat) (j : Nat) : (wipeG Γ vs)[j]? = if j ∈ vs then Γ[j]?.map (fun _ => .un) else Γ[j]? := by
  induction vs with
  | nil => rw [if_neg (by simp)]; rfl
  | cons v vs ih =>
    rw [wipeG]
    by_cases e : v = j
    · subst e
      rw [if_pos List.mem_cons_self]
      by_cases h : v < Γ.length
      · rw [List.getElem?_set_self (by rw [wipeG_length]; exact h), List.getElem?_eq_getElem h]; rfl
      · rw [List.getElem?_eq_none (by rw [List.length_set, wipeG_length]; omega), List.getElem?_eq_none (by omega)]; rfl
    · rw [List.getElem?_set_ne e, ih]
      have e' : ¬ j = v := fun z => e z.symm
      by_cases h : j ∈ vs
      · rw [if_pos h, if_pos (List.mem_cons_of_mem _ h)]
      · rw [if_neg h, if_neg (by simp [h, e'])]
theorem SR.wipe {K : PySem.W.Frag} {p : Pn} {Hd H : Hp} {σ : St} {Γ : List Sk} (s : SR K p Hd H σ Γ) (vs : List Nat) : SR K p Hd H (L2.wipe σ vs) (wipeG Γ vs) :=
  s.weak (by rw [wipe_length, wipeG_length, s.len]) fun i k h => by
    rw [wipeG_at] at h
    rw [wipe_at]
    by_cases e : i ∈ vs
    · rw [if_pos e] at h
      cases q : Γ[i]? with
      | none => rw [q] at h; simp at h
      | some _ => rw [q] at h; simp at h; exact .inl h.symm
    · rw [if_neg e] at h ⊢
      exact .inr ⟨h, rfl⟩
theorem wipe_eq {σ σ' : St} {vs is : List Nat} (h : ∀ j, j ∉ is → σ'[j]? = (wipe σ vs)[j]?) (hl : σ'.length = σ.length) (hs : ∀ j ∈ is, j ∈ vs) : wipe σ' vs = wipe σ vs := by
  apply List.ext_getElem?
  intro j
  rw [wipe_at, wipe_at]
  by_cases e : j ∈ vs
  · rw [if_pos e, if_pos e]
    by_cases q : j < σ.length
    · rw [List.getElem?_eq_getElem q, List.getElem?_eq_getElem (by rw [hl]; exact q)]; rfl
    · rw [List.getElem?_eq_none (show σ'.length ≤ j by omega), List.getElem?_eq_none (show σ.length ≤ j by omega)]
  · rw [if_neg e, if_neg e, h j (fun z => e (hs j z)), wipe_at, if_neg e]

/-! ### what is walked -/
def ItD (K : PySem.W.Frag) (Hd : Hp) (J : It) (ds : List D) : Prop := ∀ Hd' H', Same Hd Hd' → Same Hd' H' →
  (∀ i, i < ds.length → J.go i H') ∧ (∀ i, ds.length ≤ i → J.stop i H') ∧ (∀ i x H'', J.yld i H' x H'' → ∀ d, ds[i]? = some d → ∃ Hd'', Grow none Hd' H' Hd'' H'' ∧ Rep K Hd'' x d)
theorem ItD.mono {K : PySem.W.Frag} {Hd Hd' : Hp} {J : It} {ds : List D} (h : ItD K Hd J ds) (s : Same Hd Hd') : ItD K Hd' J ds := fun a b e1 e2 => h a b (s.trans e1) e2
def EvI (c : Ct) (wi : TI) (Γ : List Sk) (m : Nat) (ψ : List D → Prop) : Prop := ∀ σ Hd H n, SR c.K c.p Hd H σ Γ → Same Hd H → PenO c.p n Hd H → n + m ≤ LIM → Xs c Hd H → ∀ R : It → Hp → Prop,
  (∀ J ds Hd' H', Grow c.p.a Hd H Hd' H' → PenO c.p (n + m) Hd' H' → ψ ds → ItD c.K Hd' J ds → R J H') → wi σ H R
theorem EvI.imp {c : Ct} {wi : TI} {Γ : List Sk} {m : Nat} {ψ ψ' : List D → Prop} (h : EvI c wi Γ m ψ) (e : ∀ ds, ψ ds → ψ' ds) : EvI c wi Γ m ψ' := fun σ Hd H n s sa pe l x R q => h σ Hd H n s sa pe l x R fun J ds Hd' H' g pe' f => q J ds Hd' H' g pe' (e ds f)
theorem itd_list {K : PySem.W.Frag} {Hd : Hp} {a : Addr} {xs : List V} {ds : List D} (h : Hd a = some (.lst xs)) (r : Reps K Hd xs ds) : ItD K Hd (Itl K a) ds := fun Hd' H' e1 e2 => by
  have h' : SqL K H' a xs := SqL.of (e2 _ _ (e1 _ _ h))
  have hl := r.length
  refine ⟨fun i hi => ⟨xs, xs[i], h', by simp [hl, hi]⟩, fun i hi => ⟨xs, h', by omega⟩, fun i x H'' y d hd => ?_⟩
  obtain ⟨e, y⟩ := y
  subst e
  have q := y xs h'
  obtain ⟨v, q1, q2⟩ := (r.mono e1).get hd
  rw [q] at q1; cases q1
  exact ⟨Hd', .refl e2, q2⟩
theorem itd_tup {K : PySem.W.Frag} {Hd : Hp} {a : Addr} {xs : List V} {ds : List D} (h : SqT K Hd a xs) (r : Reps K Hd xs ds) : ItD K Hd (Itt K a) ds := fun Hd' H' e1 e2 => by
  have h' : SqT K H' a xs := same_sqt (e1.trans e2) h
  have hl := r.length
  refine ⟨fun i hi => ⟨xs, xs[i], h', by simp [hl, hi]⟩, fun i hi => ⟨xs, h', by omega⟩, fun i x H'' y d hd => ?_⟩
  obtain ⟨e, y⟩ := y
  subst e
  have q := y xs h'
  obtain ⟨v, q1, q2⟩ := (r.mono e1).get hd
  rw [q] at q1; cases q1
  exact ⟨Hd', .refl e2, q2⟩
def signs (x : Str) : List D := x.cps.toList.map fun c => .str ⟨#[c]⟩
theorem itd_str {K : PySem.W.Frag} {Hd : Hp} (x : Str) : ItD K Hd (Its x) (signs x) := fun Hd' H' e1 e2 => by
  have hl : (signs x).length = x.cps.size := by simp [signs]
  refine ⟨fun i hi => by show i < x.cps.size; omega, fun i hi => by show x.cps.size ≤ i; omega, fun i v H'' y d hd => ?_⟩
  obtain ⟨e, q, h1, h2⟩ := y
  subst e; subst h2
  have z : d = .str ⟨#[q]⟩ := by
    unfold signs at hd
    rw [List.getElem?_map, Array.getElem?_toList, h1] at hd
    simpa using hd.symm
  subst z
  exact ⟨Hd', .refl e2, .str _⟩
def rngD (lo : Int) (n : Nat) : List D := (List.range n).map fun (i : Nat) => .int (lo + (i : Int))
theorem itd_rng {K : PySem.W.Frag} {Hd : Hp} (lo : Int) (n : Nat) : ItD K Hd (Itr lo n) (rngD lo n) := fun Hd' H' e1 e2 => by
  have hl : (rngD lo n).length = n := by simp [rngD]
  refine ⟨fun i hi => by show i < n; omega, fun i hi => by show n ≤ i; omega, fun i v H'' y d hd => ?_⟩
  obtain ⟨e, h2⟩ := y
  subst e; subst h2
  have z : d = .int (lo + (i : Int)) := by
    unfold rngD at hd
    rw [List.getElem?_map] at hd
    by_cases q : i < n
    · rw [List.getElem?_range q] at hd; simpa using hd.symm
    · rw [List.getElem?_eq_none (by simp; omega)] at hd; simp at hd
  subst z
  exact ⟨Hd', .refl e2, .int _⟩
def enumD (ds : List D) : List D := ds.zipIdx.map fun p => .tup [.int (p.2 : Int), p.1]
theorem enumD_get {ds : List D} {i : Nat} {d : D} (h : (enumD ds)[i]? = some d) : ∃ e, ds[i]? = some e ∧ d = .tup [.int (i : Int), e] := by
  unfold enumD at h
  rw [List.getElem?_map, List.getElem?_zipIdx] at h
  cases q : ds[i]? with
  | none => rw [q] at h; simp at h
  | some e => rw [q] at h; simp at h; exact ⟨e, rfl, h.symm⟩
theorem itd_enum {K : PySem.W.Frag} {Hd : Hp} {a : Addr} {xs : List V} {ds : List D} (h : Hd a = some (.lst xs)) (r : Reps K Hd xs ds) : ItD K Hd (Ite K a) (enumD ds) := fun Hd' H' e1 e2 => by
  have h' : SqL K H' a xs := SqL.of (e2 _ _ (e1 _ _ h))
  have hl := r.length
  have hl2 : (enumD ds).length = ds.length := by simp [enumD]
  refine ⟨fun i hi => ⟨xs, xs[i]'(by omega), h', List.getElem?_eq_getElem _⟩, fun i hi => ⟨xs, h', by omega⟩, fun i v H'' y d hd => ?_⟩
  obtain ⟨T, x, e, hT, eH, y⟩ := y
  subst e; subst eH
  obtain ⟨e, q1, q2⟩ := enumD_get hd
  subst q2
  obtain ⟨w, q3, q4⟩ := (r.mono e1).get q1
  have q := y xs h'
  rw [q] at q3; cases q3
  have g := Grow.new (p := none) (o := HO.tup [.int (i : Nat), x]) e2 hT
  exact ⟨_, g, .tup (SqT.of upd_same) (.cons (.int _) (.cons (q4.mono g.d) .nil))⟩
def zipD (ds es : List D) : List D := (ds.zip es).map fun p => .tup [p.1, p.2]
theorem zipD_get {ds es : List D} {i : Nat} {d : D} (h : (zipD ds es)[i]? = some d) : ∃ a b, ds[i]? = some a ∧ es[i]? = some b ∧ d = .tup [a, b] := by
  unfold zipD at h
  rw [List.getElem?_map] at h
  cases q : (ds.zip es)[i]? with
  | none => rw [q] at h; simp at h
  | some e =>
    rw [q] at h; simp at h
    rw [List.getElem?_zip_eq_some] at q
    exact ⟨_, _, q.1, q.2, h.symm⟩
theorem itd_zip {K : PySem.W.Frag} {Hd : Hp} {a b : Addr} {xs ys : List V} {ds es : List D} (h : Hd a = some (.lst xs)) (r : Reps K Hd xs ds) (h2 : Hd b = some (.lst ys)) (r2 : Reps K Hd ys es) : ItD K Hd (Itz K a b) (zipD ds es) := fun Hd' H' e1 e2 => by
  have h' : SqL K H' a xs := SqL.of (e2 _ _ (e1 _ _ h))
  have h2' : SqL K H' b ys := SqL.of (e2 _ _ (e1 _ _ h2))
  have hl := r.length
  have hl2 := r2.length
  have hz : (zipD ds es).length = min ds.length es.length := by simp [zipD]
  refine ⟨fun i hi => ⟨xs, ys, xs[i]'(by omega), ys[i]'(by omega), h', h2', List.getElem?_eq_getElem _, List.getElem?_eq_getElem _⟩, fun i hi => ⟨xs, ys, h', h2', by omega⟩, fun i v H'' y d hd => ?_⟩
  obtain ⟨T, x, x2, e, hT, eH, y, y2⟩ := y
  subst e; subst eH
  obtain ⟨u1, u2, q1, p1, q2⟩ := zipD_get hd
  subst q2
  obtain ⟨w, q3, q4⟩ := (r.mono e1).get q1
  obtain ⟨w2, p3, p4⟩ := (r2.mono e1).get p1
  have q := y xs h'
  have q' := y2 ys h2'
  rw [q] at q3; cases q3
  rw [q'] at p3; cases p3
  have g := Grow.new (p := none) (o := HO.tup [x, x2]) e2 hT
  exact ⟨_, g, .tup (SqT.of upd_same) (.cons (q4.mono g.d) (.cons (p4.mono g.d) .nil))⟩

section
variable {c : Ct} {Γ : List Sk} {m m1 m2 : Nat} {φ : D → Prop} {te : TE} {ta : TA}
/-- over a list, a tuple, a text, by the value -/
def iSeq (K : PySem.W.Frag) (tl : TE) : TI := fun σ H R => tl σ H fun x H1 => (∃ a, x = .ref a ∧ (∃ xs, SqL K H1 a xs) ∧ R (Itl K a) H1) ∨ (∃ a, x = .ref a ∧ (∃ xs, SqT K H1 a xs) ∧ R (Itt K a) H1) ∨ ∃ z, x = .str z ∧ R (Its z) H1
theorem pi_seq {X : Cx} {tg l : Expr} {tl : TE} (hl : PE X l tl) : PI X tg l (iSeq X.K tl) := by
  refine ⟨fun pins s0 σ0 Hp0 Rr Iv hw => ?_⟩
  refine thn (hl.run pins s0 σ0 Hp0 _ Iv hw) fun u st hh => ?_
  obtain ⟨x, Hx, Ix, rx, qx⟩ := hh
  rcases qx with ⟨a, ex, ⟨xs, hxs⟩, qx⟩ | ⟨a, ex, ⟨xs, hxs⟩, qx⟩ | ⟨z, ex, qx⟩
  · subst ex; cases rx
    obtain ⟨us, _, pl, _⟩ := Ix.list hxs
    exact wpAny_pyIter_list pl.isList (pi_one (tk := st.toks) Ix _ (turn_list a _) ⟨_, Heap.get?_push_size _ rfl, rfl, rfl⟩ qx)
  · subst ex; cases rx
    obtain ⟨us, _, pl, _⟩ := Ix.tuple hxs
    exact wpAny_pyIter_tuple (show st.heap.IsTuple a us.toArray from pl) (pi_one (tk := st.toks) Ix _ (turn_tuple a _) ⟨_, Heap.get?_push_size _ rfl, rfl, rfl⟩ qx)
  · subst ex
    obtain ⟨tk, rfl⟩ := rx
    cases low : z.cps.all (· < 128) with
    | false => exact wpAny_pyIter_wide low (pi_one (tk := st.toks) Ix _ (turn_str _ z tk "str_iterator" (.inr rfl)) ⟨_, Heap.get?_push_size _ rfl, rfl, rfl⟩ qx)
    | true => exact wpAny_pyIter_ascii low (pi_one (tk := st.toks) Ix _ (turn_str _ z tk "str_ascii_iterator" (.inl rfl)) ⟨_, Heap.get?_push_size _ rfl, rfl, rfl⟩ qx)
/-- what may be walked, as data -/
def itemsOf : D → Option (List D)
  | .lst ds => some ds
  | .tup ds => some ds
  | .str z => some (signs z)
  | _ => none
theorem ei_seq {ψ : List D → Prop} (h : Ev c te Γ m (fun d => ∃ ds, itemsOf d = some ds ∧ ψ ds)) : EvI c (iSeq c.K te) Γ m ψ := fun σ Hd H n s sa pe l x R q =>
  h σ Hd H n s sa pe l x _ fun v d Hd1 H1 g1 pe1 ⟨ds, e, f⟩ r1 => by
    cases r1 with
    | lst h1 r =>
      cases e
      exact .inl ⟨_, rfl, ⟨_, SqL.of (g1.s _ _ h1)⟩, q _ _ Hd1 H1 g1 pe1 f (itd_list h1 r)⟩
    | tup h1 r =>
      cases e
      exact .inr (.inl ⟨_, rfl, ⟨_, same_sqt g1.s h1⟩, q _ _ Hd1 H1 g1 pe1 f (itd_tup h1 r)⟩)
    | str z =>
      cases e
      exact .inr (.inr ⟨z, rfl, q _ _ Hd1 H1 g1 pe1 f (itd_str z)⟩)
    | _ => cases e
theorem ei_seq_ {d : D} {ds : List D} (h : Ev c te Γ m (· = d)) (e : itemsOf d = some ds) : EvI c (iSeq c.K te) Γ m (· = ds) := ei_seq (h.imp fun _ q => ⟨ds, by rw [q]; exact e, rfl⟩)
theorem ei_rng1 {ι : Int → Prop} (h : EvA c ta Γ m (fun ds => ∃ n, ds = [.int n] ∧ ι n)) (b : ∀ n, ι n → -(2 ^ 62) ≤ n ∧ n < 2 ^ 62) : EvI c (iRng1 ta) Γ m (fun ds => ∃ n, ι n ∧ ds = rngD 0 n.toNat) := fun σ Hd H n s sa pe l x R q =>
  h σ Hd H n s sa pe l x _ fun vs ds Hd1 H1 g1 pe1 ⟨n, e, f⟩ r1 => by
    subst e
    cases r1 with | cons a r => cases r; cases a; exact ⟨n, rfl, (b n f).1, (b n f).2, q _ _ Hd1 H1 g1 pe1 ⟨n, f, rfl⟩ (itd_rng 0 n.toNat)⟩
theorem ei_rng1_ {n : Int} (h : EvA c ta Γ m (· = [.int n])) (b : -(2 ^ 62) ≤ n ∧ n < 2 ^ 62 := by decide) : EvI c (iRng1 ta) Γ m (· = rngD 0 n.toNat) := (ei_rng1 (ι := (· = n)) (h.imp fun _ e => ⟨n, e, rfl⟩) fun _ e => e ▸ b).imp fun ds ⟨k, e, q⟩ => by rw [q, e]
theorem ei_rng2_ {i n : Int} (h : EvA c ta Γ m (· = [.int i, .int n])) (b : -(2 ^ 62) ≤ i ∧ i < 2 ^ 62 ∧ -(2 ^ 62) ≤ n ∧ n < 2 ^ 62 := by decide) : EvI c (iRng2 ta) Γ m (· = rngD i (n - i).toNat) := fun σ Hd H n' s sa pe l x R q =>
  h σ Hd H n' s sa pe l x _ fun vs ds Hd1 H1 g1 pe1 e r1 => by
    subst e
    cases r1 with | cons a r => cases r with | cons a' r => cases r; cases a; cases a'; exact ⟨i, n, rfl, b, q _ _ Hd1 H1 g1 pe1 rfl (itd_rng i _)⟩
theorem ei_enum {ψ : List D → Prop} (h : EvA c ta Γ m (fun as => ∃ ds, as = [.lst ds] ∧ ψ ds)) : EvI c (iEnum c.K ta) Γ m (fun es => ∃ ds, ψ ds ∧ es = enumD ds) := fun σ Hd H n s sa pe l x R q =>
  h σ Hd H n s sa pe l x _ fun vs as Hd1 H1 g1 pe1 ⟨ds, e, f⟩ r1 => by
    subst e
    cases r1 with | cons a r => cases r; cases a with | lst h1 r => exact ⟨_, _, rfl, SqL.of (g1.s _ _ h1), q _ _ Hd1 H1 g1 pe1 ⟨ds, f, rfl⟩ (itd_enum h1 r)⟩
theorem ei_enum_ {ds : List D} (h : EvA c ta Γ m (· = [.lst ds])) : EvI c (iEnum c.K ta) Γ m (· = enumD ds) := (ei_enum (ψ := (· = ds)) (h.imp fun _ e => ⟨ds, e, rfl⟩)).imp fun _ ⟨k, e, q⟩ => by rw [q, e]
theorem ei_zip_ {ds es : List D} (h : EvA c ta Γ m (· = [.lst ds, .lst es])) : EvI c (iZip c.K ta) Γ m (· = zipD ds es) := fun σ Hd H n s sa pe l x R q =>
  h σ Hd H n s sa pe l x _ fun vs as Hd1 H1 g1 pe1 e r1 => by
    subst e
    cases r1 with | cons a r => cases r with | cons a' r => cases r; cases a with | lst h1 r => cases a' with | lst h2 r2 => exact ⟨_, _, _, _, rfl, SqL.of (g1.s _ _ h1), SqL.of (g1.s _ _ h2), q _ _ Hd1 H1 g1 pe1 rfl (itd_zip h1 r h2 r2)⟩

/-! ### targets -/
def TgD (c : Ct) (g : TG) (d : D) (ps : List (Nat × D)) : Prop := ∀ σ Hd H v Γ, SR c.K c.p Hd H σ Γ → Same Hd H → Rep c.K Hd v d → ∀ Q : St → Hp → Prop,
  (∀ σ', SR c.K c.p Hd H σ' (setD Γ ps) → σ'.length = σ.length → (∀ j, j ∉ ps.map (·.1) → σ'[j]? = σ[j]?) → Q σ' H) → g v σ H Q
theorem tg_name {i : Nat} {d : D} : TgD c (gName i) d [(i, d)] := fun σ Hd H v Γ s sa r Q q =>
  q _ (s.set (i := i) (o := some v) (k := .dat d) ⟨v, rfl, r⟩ rfl) (by rw [List.length_set]) fun j hj => by
    rw [List.getElem?_set_ne]
    intro e; subst e; simp at hj
def TgDs (c : Ct) (g : TGs) (ds : List D) (ps : List (Nat × D)) : Prop := ∀ σ Hd H vs Γ, SR c.K c.p Hd H σ Γ → Same Hd H → Reps c.K Hd vs ds → ∀ Q : St → Hp → Prop,
  (∀ σ', SR c.K c.p Hd H σ' (setD Γ ps) → σ'.length = σ.length → (∀ j, j ∉ ps.map (·.1) → σ'[j]? = σ[j]?) → Q σ' H) → g vs σ H Q
theorem setD_append (Γ : List Sk) (ps qs : List (Nat × D)) : setD Γ (ps ++ qs) = setD (setD Γ ps) qs := by
  induction ps generalizing Γ with
  | nil => rfl
  | cons p ps ih => obtain ⟨i, d⟩ := p; exact ih _
theorem tgs_nil : TgDs c gNil [] [] := fun σ Hd H vs Γ s sa r Q q => by cases r; exact ⟨rfl, q σ s rfl fun _ _ => rfl⟩
theorem tgs_cons {g : TG} {gs : TGs} {d : D} {ds : List D} {ps qs : List (Nat × D)} (h1 : TgD c g d ps) (h2 : TgDs c gs ds qs) : TgDs c (gCons g gs) (d :: ds) (ps ++ qs) := fun σ Hd H vs Γ s sa r Q q => by
  cases r with
  | cons a r =>
    refine ⟨_, _, rfl, h1 σ Hd H _ Γ s sa a _ fun σ1 s1 l1 k1 => h2 σ1 Hd H _ _ s1 sa r _ fun σ2 s2 l2 k2 => q σ2 (by rw [setD_append]; exact s2) (l2.trans l1) fun j hj => ?_⟩
    rw [List.map_append, List.mem_append, not_or] at hj
    rw [k2 j hj.2, k1 j hj.1]
theorem tg_tup {gs : TGs} {ds : List D} {ps : List (Nat × D)} {n : Nat} (h : TgDs c gs ds ps) (hn : ds.length = n := by rfl) : TgD c (gTup c.K n gs) (.tup ds) ps := fun σ Hd H v Γ s sa r Q q => by
  cases r with
  | tup h1 r => exact ⟨_, _, rfl, same_sqt sa h1, by rw [r.length, hn], h σ Hd H _ Γ s sa r Q q⟩
end
end DL
set_option maxRecDepth 100000
set_option maxHeartbeats 4000000
/-! DL4: comprehensions; the state of a body (Ok), EvM, statements (Wp). -/
namespace DL
open PySem L2

/-! ### comprehensions -/
inductive Cmp (T : D → Bool → Prop) (F : D → D → Prop) : List D → List D → Prop
  | nil : Cmp T F [] []
  | skip {d ds es} : T d false → Cmp T F ds es → Cmp T F (ds ++ [d]) es
  | take {d e ds es} : T d true → F d e → Cmp T F ds es → Cmp T F (ds ++ [d]) (es ++ [e])
theorem Cmp.len {T : D → Bool → Prop} {F : D → D → Prop} {ds es : List D} (h : Cmp T F ds es) : es.length ≤ ds.length := by
  induction h with
  | nil => exact Nat.le_refl _
  | skip _ _ ih => simp; omega
  | take _ _ _ ih => simp; omega
theorem Cmp.exact {T : D → Bool → Prop} {F : D → D → Prop} {b : D → Bool} {f : D → D} {ds es : List D} (h : Cmp T F ds es) (hT : ∀ d k, T d k → k = b d) (hF : ∀ d e, F d e → e = f d) : es = (ds.filter b).map f := by
  induction h with
  | nil => rfl
  | skip t _ ih => rw [List.filter_append, List.map_append, ← ih]; simp [← hT _ _ t]
  | take t q _ ih => rw [List.filter_append, List.map_append, ← ih]; simp [← hT _ _ t, hF _ _ q]
theorem Cmp.all {T : D → Bool → Prop} {F : D → D → Prop} {φ : D → Prop} {ds es : List D} (h : Cmp T F ds es) (hF : ∀ d e, F d e → φ e) : ∀ e ∈ es, φ e := by
  induction h with
  | nil => simp
  | skip _ _ ih => exact ih
  | take _ q _ ih => intro e he; rcases List.mem_append.mp he with h | h
                     · exact ih e h
                     · rw [List.mem_singleton.mp h]; exact hF _ _ q
theorem Cmp.len_eq {T : D → Bool → Prop} {F : D → D → Prop} {ds es : List D} (h : Cmp T F ds es) (hT : ∀ d, ¬ T d false) : es.length = ds.length := by
  induction h with
  | nil => rfl
  | skip t _ _ => exact absurd t (hT _)
  | take _ _ _ ih => simp [ih]

section
variable {c : Ct} {Γ : List Sk} {m0 m m1 m2 L : Nat} {φ : D → Prop} {te : TE} {ta : TA} {wi : TI} {g : TG} {tt : TT}
theorem ev_lc {vs : List Nat} {ψ : List D → Prop} {T : D → Bool → Prop} {F : D → D → Prop} (hi : EvI c wi Γ m0 ψ) (hL : ∀ ds, ψ ds → ds.length ≤ L) (hz : L < 1000000)
    (h : ∀ ds, ψ ds → ∀ d ∈ ds, ∃ ps, TgD c g d ps ∧ (∀ j ∈ ps.map (·.1), j ∈ vs) ∧ EvB c tt (setD (wipeG Γ vs) ps) m1 (T d) ∧ (T d true → Ev c te (setD (wipeG Γ vs) ps) m2 (F d))) :
    Ev c (tLc wi g tt te vs) Γ (m0 + L * (m1 + m2)) (fun r => ∃ ds es, ψ ds ∧ Cmp T F ds es ∧ r = .lst es) := fun σ Hd H n s sa pe l x Q q => by
  have hLc : n + m0 ≤ LIM := by have := Nat.zero_le (L * (m1 + m2)); omega
  refine hi σ Hd H n s sa pe hLc x _ fun J ds Hd1 H1 g1 pe1 f J1 => fun Da hD => ?_
  have hl := hL ds f
  have nd1 : Hd1 Da = none := g1.s.free hD
  have npa : c.p.a ≠ some Da := fun z => by
    cases hp : c.p with
    | none => rw [hp] at z; cases z
    | some ac =>
      rw [hp] at z pe1
      have z' : ac.1 = Da := by simpa using z
      obtain ⟨⟨i, dg, ct, fd, e1, _⟩, _⟩ := pe1
      rw [z', hD] at e1; cases e1
  let Pv : Nat → Hp → Prop := fun i Hx => ∃ Hd2 acc es, Grow c.p.a Hd1 H1 Hd2 Hx ∧ Hx Da = some (.lst acc) ∧ Hd2 Da = none ∧ PenO c.p (n + m0 + i * (m1 + m2)) Hd2 Hx ∧ Reps c.K Hd2 acc es ∧ Cmp T F (ds.take i) es
  have key : ∀ i, i ≤ ds.length → i * (m1 + m2) ≤ L * (m1 + m2) := fun i hi => Nat.mul_le_mul_right _ (by omega)
  refine ⟨fun i m Hx => m = ds.length - i ∧ i ≤ ds.length ∧ Pv i Hx, ⟨ds.length, by simp, Nat.zero_le _, Hd1, [], [], Grow.loc g1.s hD, upd_same, nd1, ?_, .nil, .nil⟩, ?_⟩
  · have := pe1.write (b := Da) (o := .lst []) npa
    simpa using this
  rintro i m Hx ⟨rfl, hi, Hd2, acc, es, gx, hx, nd, px, rx, cx⟩
  obtain ⟨go, stop, yld⟩ := J1 Hd2 Hx gx.d gx.s
  by_cases hlt : i < ds.length
  · refine .inr ⟨go i hlt, Pv (i + 1), fun H' p' => ⟨ds.length - (i + 1), by omega, rfl, hlt, p'⟩, fun v Hy hy => ?_⟩
    have hd : ds[i]? = some ds[i] := by simp
    obtain ⟨Hd3, g3, r3⟩ := yld i v Hy hy _ hd
    obtain ⟨ps, tg, hps, hb, he⟩ := h ds f ds[i] (List.getElem_mem hlt)
    have gT : Grow c.p.a Hd H Hd3 Hy := ⟨(g1.d.trans gx.d).trans g3.d, fun b o ne e => g3.h b o (by simp) (gx.h b o ne (g1.h b o ne e)), g3.s, fun a ha na => g3.f a (gx.m a (g1.m a ha)) (gx.f a (g1.m a ha) (g1.f a ha na)), fun a ha => g3.m a (gx.m a (g1.m a ha))⟩
    have sT : SR c.K c.p Hd3 Hy (wipe σ vs) (wipeG Γ vs) := (s.grow gT).wipe vs
    refine tg _ Hd3 Hy v _ sT g3.s r3 _ fun σ2 s2 l2 k2 => ?_
    have l2' : σ2.length = σ.length := by rw [l2, wipe_length]
    refine ⟨wipe_eq k2 l2' hps, ?_⟩
    have p3 := px.grow g3
    have kk := key (i + 1) hlt
    have e1 : (i + 1) * (m1 + m2) = i * (m1 + m2) + (m1 + m2) := Nat.succ_mul _ _
    have hDy : Hy Da = some (.lst acc) := g3.h _ _ (by simp) hx
    have nd3 : Hd3 Da = none := g3.f _ (by rw [hx]; simp) nd
    refine hb σ2 Hd3 Hy _ s2 g3.s p3 (by omega) (x.grow gT) _ fun b Hd4 H4 g4 p4 t4 => ?_
    cases b with
    | true =>
      show te σ2 H4 _
      refine he t4 σ2 Hd4 H4 _ (s2.grow g4) g4.s p4 (by omega) (x.grow (gT.trans g4)) _ fun y d Hd5 H5 g5 p5 f5 r5 => ?_
      have g45 := g4.trans g5
      have hD5 : H5 Da = some (.lst acc) := g45.h _ _ npa hDy
      have nd5 : Hd5 Da = none := g45.f _ (by rw [hDy]; simp) nd3
      have hla : acc.length = es.length := rx.length
      have hle := cx.len
      refine ⟨acc, hD5, ?_, Hd5, acc ++ [y], es ++ [d], (gx.trans (g3.up.trans g45)).write hD nd5, upd_same, nd5, ?_, (rx.mono (g3.d.trans g45.d)).append (.cons r5 .nil), ?_⟩
      · rw [List.length_take] at hle
        rw [hla, sizeLine_eq]; omega
      · refine PenO.more (p5.write npa) (by omega)
      · rw [List.take_add_one, hd]; exact .take t4 f5 cx
    | false =>
      show Pv (i + 1) H4
      refine ⟨Hd4, acc, es, gx.trans (g3.up.trans g4), g4.h _ _ npa hDy, g4.f _ (by rw [hDy]; simp) nd3, PenO.more p4 (by omega), rx.mono (g3.d.trans g4.d), ?_⟩
      rw [List.take_add_one, hd]; exact .skip t4 cx
  · have e : i = ds.length := by omega
    subst e
    refine .inl ⟨stop _ (Nat.le_refl _), ?_⟩
    have kk := key _ (Nat.le_refl ds.length)
    rw [List.take_length] at cx
    have gf := (g1.trans gx)
    have gz : Grow c.p.a Hd H (upd Hd2 Da (.lst acc)) Hx := gf.freeze sa (g1.free hD) nd hx
    exact q (.ref Da) (.lst es) _ _ gz (PenO.more (px.freeze npa nd) (by omega)) ⟨ds, es, f, cx, rfl⟩ (.lst upd_same (rx.mono fun b u e => by rw [upd_ne (ne_of_none e nd)]; exact e))
/-- exact -/
theorem ev_lc_ {vs : List Nat} {ds : List D} {b : D → Bool} {f : D → D} (hi : EvI c wi Γ m0 (· = ds)) (hz : ds.length < 1000000)
    (h : ∀ d ∈ ds, ∃ ps, TgD c g d ps ∧ (∀ j ∈ ps.map (·.1), j ∈ vs) ∧ EvB c tt (setD (wipeG Γ vs) ps) 0 (· = b d) ∧ (b d = true → Ev c te (setD (wipeG Γ vs) ps) 0 (· = f d))) :
    Ev c (tLc wi g tt te vs) Γ m0 (· = .lst ((ds.filter b).map f)) := by
  have q := ev_lc (L := ds.length) (m1 := 0) (m2 := 0) (T := fun d k => k = b d) (F := fun d e => e = f d) hi (fun _ e => by rw [e]; exact Nat.le_refl _) hz fun ds' e d hd => by
    subst e
    obtain ⟨ps, h1, h2, h3, h4⟩ := h d hd
    exact ⟨ps, h1, h2, h3, fun z => h4 z.symm⟩
  rw [Nat.mul_zero, Nat.add_zero] at q
  refine q.imp fun r ⟨ds', es, e, k, z⟩ => ?_
  subst e
  rw [z, k.exact (fun _ _ q => q) fun _ _ q => q]
theorem eb_yes : EvB c tYes Γ 0 (· = true) := fun σ Hd H n s sa pe l x Q q => q true Hd H (.refl sa) pe rfl
theorem eb_yesG {β : Bool → Prop} (h : β true) : EvB c tYes Γ 0 β := fun σ Hd H n s sa pe l x Q q => q true Hd H (.refl sa) pe h
end

/-! ### the state within a body -/
structure Ok (c : Ct) (Hb Hd0 H0 : Hp) (σ : St) (Γ : List Sk) (Hd H : Hp) (n : Nat) : Prop where
  b : Same Hb Hd
  s0 : Same Hd0 H0
  g : Grow c.p.a Hd0 H0 Hd H
  sr : SR c.K c.p Hd H σ Γ
  pe : PenO c.p n Hd H
  fr : ∀ (i : Nat) k l, Γ[i]? = some k → k.isOwn = true → σ[i]? = some (some (.ref l)) → H0 l = none
section
variable {c : Ct} {Hb Hd0 H0 : Hp} {σ σ' : St} {Γ Γ' : List Sk} {Hd H Hd' H' : Hp} {n n' m : Nat} {i : Nat}
theorem Ok.grow (o : Ok c Hb Hd0 H0 σ Γ Hd H n) (g : Grow c.p.a Hd H Hd' H') (pe : PenO c.p n' Hd' H') : Ok c Hb Hd0 H0 σ Γ Hd' H' n' := ⟨o.b.trans g.d, o.s0, o.g.trans g, o.sr.grow g, pe, o.fr⟩
theorem Ok.more (o : Ok c Hb Hd0 H0 σ Γ Hd H n) (e : n ≤ n') : Ok c Hb Hd0 H0 σ Γ Hd H n' := ⟨o.b, o.s0, o.g, o.sr, o.pe.more e, o.fr⟩
/-- slots that own nothing are stored -/
theorem Ok.slots (o : Ok c Hb Hd0 H0 σ Γ Hd H n) (s : SR c.K c.p Hd H σ' Γ') (k : ∀ (i : Nat) (k : Sk), Γ'[i]? = some k → k.isOwn = true → Γ[i]? = some k ∧ σ'[i]? = σ[i]?) : Ok c Hb Hd0 H0 σ' Γ' Hd H n :=
  ⟨o.b, o.s0, o.g, s, o.pe, fun i q l h1 h2 h3 => by obtain ⟨a, b⟩ := k i q h1 h2; rw [b] at h3; exact o.fr i q l a h2 h3⟩
theorem Ok.set (o : Ok c Hb Hd0 H0 σ Γ Hd H n) {v : V} {d : D} (r : Rep c.K Hd v d) : Ok c Hb Hd0 H0 (σ.set i (some v)) (Γ.set i (.dat d)) Hd H n :=
  o.slots (o.sr.set ⟨v, rfl, r⟩ rfl) fun j k h1 h2 => by
    by_cases e : i = j
    · subst e
      by_cases hl : i < Γ.length
      · rw [List.getElem?_set_self hl] at h1; cases h1; cases h2
      · rw [List.getElem?_eq_none (by rw [List.length_set]; omega)] at h1; cases h1
    · rw [List.getElem?_set_ne e] at h1
      exact ⟨h1, List.getElem?_set_ne e⟩
theorem setD_own : ∀ {ps : List (Nat × D)} {Γ : List Sk} {i : Nat} {k : Sk}, (setD Γ ps)[i]? = some k → k.isOwn = true → Γ[i]? = some k ∧ i ∉ ps.map (·.1)
  | [], _, _, _, h, _ => ⟨h, by simp⟩
  | (j, d) :: ps, Γ, i, k, h, o => by
    obtain ⟨a, b⟩ := setD_own (ps := ps) (Γ := Γ.set j (.dat d)) h o
    have e : j ≠ i := fun e => by
      subst e
      by_cases hl : j < Γ.length
      · rw [List.getElem?_set_self hl] at a; cases a; cases o
      · rw [List.getElem?_eq_none (by rw [List.length_set]; omega)] at a; cases a
    rw [List.getElem?_set_ne e] at a
    exact ⟨a, by simp only [List.map_cons, List.mem_cons, not_or]; exact ⟨fun z => e z.symm, b⟩⟩
theorem Ok.tg (o : Ok c Hb Hd0 H0 σ Γ Hd H n) {ps : List (Nat × D)} (s : SR c.K c.p Hd H σ' (setD Γ ps)) (k : ∀ j, j ∉ ps.map (·.1) → σ'[j]? = σ[j]?) : Ok c Hb Hd0 H0 σ' (setD Γ ps) Hd H n :=
  o.slots s fun j q h1 h2 => by obtain ⟨a, b⟩ := setD_own h1 h2; exact ⟨a, k j b⟩
theorem Pn.ne_of {p : Pn} {b : Addr} {n : Nat} {Hd H : Hp} (pe : PenO p n Hd H) (h : H b = none) : p.a ≠ some b := fun z => by
  cases p with
  | none => cases z
  | some ac =>
    have z' : ac.1 = b := by simpa using z
    obtain ⟨⟨i, dg, ct, fd, e1, _⟩, _⟩ := pe
    rw [z', h] at e1; cases e1
/-- a new local list -/
theorem Ok.newOwn (o : Ok c Hb Hd0 H0 σ Γ Hd H n) {a : Addr} {vs : List V} {ds : List D} (h : H a = none) (r : Reps c.K Hd vs ds) : Ok c Hb Hd0 H0 (σ.set i (some (.ref a))) (Γ.set i (.own ds)) Hd (upd H a (.lst vs)) n := by
  have ne := Pn.ne_of o.pe h
  have g := Grow.loc (p := c.p.a) (o := HO.lst vs) o.g.s h
  have hd : Hd a = none := o.g.s.free h
  have nu : ∀ (j : Nat) k l, Γ[j]? = some k → k.isOwn = true → σ[j]? = some (some (.ref l)) → l ≠ a := fun j k l h1 h2 h3 z => by
    subst z
    have q := o.sr.ok j _ k h3 h1
    cases k with
    | own _ => obtain ⟨l', vs', e, e2, _⟩ := q; cases e; rw [h] at e2; cases e2
    | ow _ _ => obtain ⟨l', vs', e, e2, _⟩ := q; cases e; rw [h] at e2; cases e2
    | odk _ _ => obtain ⟨l', vs', e, e2, _⟩ := q; cases e; rw [h] at e2; cases e2
    | slf _ _ _ _ _ => obtain ⟨l', vs', e, e2, _⟩ := q; cases e; rw [h] at e2; cases e2
    | _ => cases h2
  have sg := o.sr.grow g
  refine ⟨o.b, o.s0, o.g.trans g, ⟨?_, fun j o' k h1 h2 => ?_, fun j j' k1 k2 l nj h1 o1 h2 o2 e1 e2 => ?_⟩, o.pe.write ne, fun j k l h1 h2 h3 => ?_⟩
  · rw [List.length_set, List.length_set]; exact o.sr.len
  · by_cases e : i = j
    · subst e
      by_cases hl : i < Γ.length
      · rw [List.getElem?_set_self hl] at h2; cases h2
        rw [List.getElem?_set_self (by rw [o.sr.len]; exact hl)] at h1; cases h1
        exact ⟨a, vs, rfl, upd_same, hd, r, ne⟩
      · rw [List.getElem?_eq_none (by rw [List.length_set]; omega)] at h2; cases h2
    · rw [List.getElem?_set_ne e] at h1 h2
      exact sg.ok j _ _ h1 h2
  · by_cases a1 : i = j
    · subst a1
      have a2 : i ≠ j' := nj
      rw [List.getElem?_set_ne a2] at h2 e2
      have hl : i < σ.length := by
        have := (List.getElem?_eq_some_iff.mp e1).1
        rwa [List.length_set] at this
      rw [List.getElem?_set_self hl] at e1; cases e1
      exact nu j' k2 _ h2 o2 e2 rfl
    · rw [List.getElem?_set_ne a1] at h1 e1
      by_cases a2 : i = j'
      · subst a2
        have hl : i < σ.length := by
          have := (List.getElem?_eq_some_iff.mp e2).1
          rwa [List.length_set] at this
        rw [List.getElem?_set_self hl] at e2; cases e2
        exact nu j k1 _ h1 o1 e1 rfl
      · rw [List.getElem?_set_ne a2] at h2 e2
        exact o.sr.ap j j' k1 k2 l nj h1 o1 h2 o2 e1 e2
  · by_cases e : i = j
    · subst e
      have hl : i < σ.length := by
        have := (List.getElem?_eq_some_iff.mp h3).1
        rwa [List.length_set] at this
      rw [List.getElem?_set_self hl] at h3; cases h3
      exact o.g.free h
    · rw [List.getElem?_set_ne e] at h1 h3
      exact o.fr j k l h1 h2 h3
/-- a local list is written -/
theorem Ok.writeOwn (o : Ok c Hb Hd0 H0 σ Γ Hd H n) {l : Addr} {ds es : List D} {vs : List V} (hi : Γ[i]? = some (.own ds)) (hs : σ[i]? = some (some (.ref l))) (r : Reps c.K Hd vs es) : Ok c Hb Hd0 H0 σ (Γ.set i (.own es)) Hd (upd H l (.lst vs)) n := by
  obtain ⟨l', ws, e, h1, h2, h3, ne⟩ := o.sr.ok i _ _ hs hi
  cases e
  have hl : i < Γ.length := (List.getElem?_eq_some_iff.mp hi).1
  have f0 := o.fr i _ _ hi rfl hs
  refine ⟨o.b, o.s0, o.g.write f0 h2, ⟨by rw [List.length_set]; exact o.sr.len, fun j o' k q1 q2 => ?_, fun j j' k1 k2 b nj q1 o1 q2 o2 e1 e2 => ?_⟩, o.pe.write ne, fun j k b q1 o1 q3 => ?_⟩
  · by_cases e : i = j
    · subst e
      rw [List.getElem?_set_self hl] at q2; cases q2
      rw [hs] at q1; cases q1
      exact ⟨l, vs, rfl, upd_same, h2, r, ne⟩
    · rw [List.getElem?_set_ne e] at q2
      have old := o.sr.ok j _ _ q1 q2
      cases k with
      | own _ =>
        obtain ⟨l2, w2, e2, b1, b2⟩ := old
        subst e2
        have nl : l2 ≠ l := fun z => by subst z; exact o.sr.ap i j _ _ _ e hi rfl q2 rfl hs q1
        exact ⟨l2, w2, rfl, by rw [upd_ne nl]; exact b1, b2⟩
      | ow _ _ =>
        obtain ⟨l2, w2, e2, b1, b2⟩ := old
        subst e2
        have nl : l2 ≠ l := fun z => by subst z; exact o.sr.ap i j _ _ _ e hi rfl q2 rfl hs q1
        exact ⟨l2, w2, rfl, by rw [upd_ne nl]; exact b1, b2⟩
      | odk _ _ =>
        obtain ⟨l2, w2, e2, b1, b2⟩ := old
        subst e2
        have nl : l2 ≠ l := fun z => by subst z; exact o.sr.ap i j _ _ _ e hi rfl q2 rfl hs q1
        exact ⟨l2, w2, rfl, by rw [upd_ne nl]; exact b1, b2⟩
      | slf _ _ _ _ _ =>
        obtain ⟨l2, w2, e2, b1, b2⟩ := old
        subst e2
        have nl : l2 ≠ l := fun z => by subst z; exact o.sr.ap i j _ _ _ e hi rfl q2 rfl hs q1
        exact ⟨l2, w2, rfl, by rw [upd_ne nl]; exact b1, b2⟩
      | _ => exact old
  · have back : ∀ {j : Nat} {k : Sk}, (Γ.set i (.own es))[j]? = some k → k.isOwn = true → ∃ k', Γ[j]? = some k' ∧ k'.isOwn = true := fun {j k} q oq => by
      by_cases e : i = j
      · subst e; exact ⟨_, hi, rfl⟩
      · rw [List.getElem?_set_ne e] at q; exact ⟨_, q, oq⟩
    obtain ⟨k1', a1, b1⟩ := back q1 o1
    obtain ⟨k2', a2, b2⟩ := back q2 o2
    exact o.sr.ap j j' k1' k2' b nj a1 b1 a2 b2 e1 e2
  · by_cases e : i = j
    · subst e
      exact o.fr i _ b hi rfl q3
    · rw [List.getElem?_set_ne e] at q1
      exact o.fr j k b q1 o1 q3
/-- a local list becomes data -/
theorem Ok.freeze (o : Ok c Hb Hd0 H0 σ Γ Hd H n) {ds : List D} (hi : Γ[i]? = some (.own ds)) : ∃ l vs, σ[i]? = some (some (.ref l)) ∧ H l = some (.lst vs) ∧ Hd l = none ∧ Reps c.K Hd vs ds ∧ c.p.a ≠ some l ∧ Ok c Hb Hd0 H0 σ (Γ.set i (.dat (.lst ds))) (upd Hd l (.lst vs)) H n := by
  obtain ⟨o', hs, l, vs, e, h1, h2, h3, ne⟩ := o.sr.get hi
  subst e
  have hl : i < Γ.length := (List.getElem?_eq_some_iff.mp hi).1
  have f0 := o.fr i _ _ hi rfl hs
  have mo : Same Hd (upd Hd l (.lst vs)) := fun b u e => by rw [upd_ne (ne_of_none e h2)]; exact e
  have keepO : ∀ {j : Nat} {k : Sk}, (Γ.set i (.dat (.lst ds)))[j]? = some k → k.isOwn = true → i ≠ j ∧ Γ[j]? = some k := fun {j k} q oq => by
    by_cases e : i = j
    · subst e; rw [List.getElem?_set_self hl] at q; cases q; cases oq
    · rw [List.getElem?_set_ne e] at q; exact ⟨e, q⟩
  refine ⟨l, vs, hs, h1, h2, h3, ne, o.b.trans mo, o.s0, o.g.freeze o.s0 f0 h2 h1, ⟨by rw [List.length_set]; exact o.sr.len, fun j o2 k q1 q2 => ?_, fun j j' k1 k2 b nj q1 o1 q2 o2 e1 e2 => ?_⟩, o.pe.freeze ne h2, fun j k b q1 o1 q3 => o.fr j k b (keepO q1 o1).2 o1 q3⟩
  · by_cases e : i = j
    · subst e
      rw [List.getElem?_set_self hl] at q2; cases q2
      rw [hs] at q1; cases q1
      exact ⟨_, rfl, .lst upd_same (h3.mono mo)⟩
    · rw [List.getElem?_set_ne e] at q2
      have old := o.sr.ok j _ _ q1 q2
      cases k with
      | un => exact True.intro
      | dat d => obtain ⟨v, e1, e2⟩ := old; exact ⟨v, e1, e2.mono mo⟩
      | own _ =>
        obtain ⟨l2, w2, e2, b1, b2, b3, b4⟩ := old
        subst e2
        have nl : l2 ≠ l := fun z => by subst z; exact o.sr.ap i j _ _ _ e hi rfl q2 rfl hs q1
        exact ⟨l2, w2, rfl, b1, by rw [upd_ne nl]; exact b2, b3.mono mo, b4⟩
      | ow _ _ =>
        obtain ⟨l2, w2, e2, b1, bl, b2, b3, b4⟩ := old
        subst e2
        have nl : l2 ≠ l := fun z => by subst z; exact o.sr.ap i j _ _ _ e hi rfl q2 rfl hs q1
        exact ⟨l2, w2, rfl, b1, bl, by rw [upd_ne nl]; exact b2, b3.mono mo, b4⟩
      | odk _ _ =>
        obtain ⟨l2, w2, e2, b1, bl, b2, b3, b4⟩ := old
        subst e2
        have nl : l2 ≠ l := fun z => by subst z; exact o.sr.ap i j _ _ _ e hi rfl q2 rfl hs q1
        exact ⟨l2, w2, rfl, b1, bl, by rw [upd_ne nl]; exact b2, b3.mono mo, b4⟩
      | slf _ _ _ _ _ =>
        obtain ⟨l2, w2, e2, b1, bl, b2, b3, b4⟩ := old
        subst e2
        have nl : l2 ≠ l := fun z => by subst z; exact o.sr.ap i j _ _ _ e hi rfl q2 rfl hs q1
        exact ⟨l2, w2, rfl, b1, bl, by rw [upd_ne nl]; exact b2, b3.mono mo, b4⟩
      | pen => exact old
  · exact o.sr.ap j j' k1 k2 b nj (keepO q1 o1).2 o1 (keepO q2 o2).2 o2 e1 e2
end
end DL
set_option maxRecDepth 100000
set_option maxHeartbeats 4000000
/-! DL5: EvM, statements, calls, promises. -/
namespace DL
open PySem L2

/-- an expression in a body: owned slots may change -/
def EvM (c : Ct) (te : TE) (Γ : List Sk) (m : Nat) (Φ : D → List Sk → Prop) : Prop := ∀ Hb Hd0 H0 σ Hd H n, Ok c Hb Hd0 H0 σ Γ Hd H n → n + m ≤ LIM → Xs c Hd0 H0 → ∀ Q : VK,
  (∀ v d Γ' Hd' H', Φ d Γ' → Ok c Hb Hd0 H0 σ Γ' Hd' H' (n + m) → Rep c.K Hd' v d → Q v H') → te σ H Q
structure Wh where
  N : List Sk → Prop
  R : D → Prop
  B : List Sk → Prop := fun _ => False
  C : List Sk → Prop := fun _ => False
def Wp (c : Ct) (t : TS) (Γ : List Sk) (m : Nat) (W : Wh) : Prop := ∀ Hb Hd0 H0 σ Hd H n, Ok c Hb Hd0 H0 σ Γ Hd H n → n + m ≤ LIM → Xs c Hd0 H0 → ∀ E : Ends,
  (∀ Γ' σ' Hd' H', W.N Γ' → Ok c Hb Hd0 H0 σ' Γ' Hd' H' (n + m) → E.nx σ' H') →
  (∀ Γ' σ' Hd' H', W.B Γ' → Ok c Hb Hd0 H0 σ' Γ' Hd' H' (n + m) → E.bk σ' H') →
  (∀ Γ' σ' Hd' H', W.C Γ' → Ok c Hb Hd0 H0 σ' Γ' Hd' H' (n + m) → E.ct σ' H') →
  (∀ v d Hd' H', W.R d → Grow c.p.a Hd0 H0 Hd' H' → PenO c.p (n + m) Hd' H' → Rep c.K Hd' v d → E.rt v H') → t E σ H
/-- at the end: everything is told -/
abbrev retW (R : D → Prop) : Wh := { N := fun _ => R .non, R := R }

section
variable {c : Ct} {Γ : List Sk} {m m0 m1 m2 m3 L : Nat} {φ φ1 ψ : D → Prop} {Φ : D → List Sk → Prop} {te ta tb : TE} {t u : TS} {tt : TT} {W : Wh} {g : TG} {i : Nat}
theorem EvM.more (h : EvM c te Γ m Φ) (e : m ≤ m1) : EvM c te Γ m1 Φ := fun Hb Hd0 H0 σ Hd H n o l x Q q => h Hb Hd0 H0 σ Hd H n o (by omega) x Q fun v d Γ' Hd' H' f o' => q v d Γ' Hd' H' f (o'.more (by omega))
theorem EvM.imp {Φ' : D → List Sk → Prop} (h : EvM c te Γ m Φ) (e : ∀ d G, Φ d G → Φ' d G) : EvM c te Γ m Φ' := fun Hb Hd0 H0 σ Hd H n o l x Q q => h Hb Hd0 H0 σ Hd H n o l x Q fun v d Γ' Hd' H' f o' => q v d Γ' Hd' H' (e d Γ' f) o'
theorem Ev.toM (h : Ev c te Γ m φ) : EvM c te Γ m (fun d Γ' => Γ' = Γ ∧ φ d) := fun Hb Hd0 H0 σ Hd H n o l x Q q =>
  h σ Hd H n o.sr o.g.s o.pe l (x.grow o.g) Q fun v d Hd' H' g pe f r => q v d Γ Hd' H' ⟨rfl, f⟩ (o.grow g pe) r
/-- a local list seen as data while an expression gives a scalar -/
def scalar : D → Bool
  | .non => true | .bl _ => true | .int _ => true | .str _ => true | _ => false
theorem rep_scalar {K : PySem.W.Frag} {H H' : Hp} {v : V} {d : D} (s : scalar d = true) (r : Rep K H v d) : Rep K H' v d := by
  cases r with
  | non => exact .non
  | bl b => exact .bl b
  | int b => exact .int b
  | str b => exact .str b
  | _ => cases s
theorem ev_borrow {ds : List D} (hi : Γ[i]? = some (.own ds)) (h : Ev c te (Γ.set i (.dat (.lst ds))) m φ) (hs : ∀ d, φ d → scalar d = true) (hx : ∀ C fs, ¬ c.χ C fs := by intro _ _ z; exact z) : Ev c te Γ m φ := fun σ Hd H n s sa pe l x Q q => by
  obtain ⟨o', hσ, a, vs, e, h1, h2, h3, ne⟩ := s.get hi
  subst e
  have hl : i < Γ.length := (List.getElem?_eq_some_iff.mp hi).1
  have mo : Same Hd (upd Hd a (.lst vs)) := fun b u e => by rw [upd_ne (ne_of_none e h2)]; exact e
  have sa' : Same (upd Hd a (.lst vs)) H := fun b u e => by
    by_cases z : b = a
    · subst z; rw [upd_same] at e; cases e; exact h1
    · rw [upd_ne z] at e; exact sa _ _ e
  have keepO : ∀ {j : Nat} {k : Sk}, (Γ.set i (.dat (.lst ds)))[j]? = some k → k.isOwn = true → i ≠ j ∧ Γ[j]? = some k := fun {j k} q oq => by
    by_cases e : i = j
    · subst e; rw [List.getElem?_set_self hl] at q; cases q; cases oq
    · rw [List.getElem?_set_ne e] at q; exact ⟨e, q⟩
  have s' : SR c.K c.p (upd Hd a (.lst vs)) H σ (Γ.set i (.dat (.lst ds))) := by
    refine ⟨by rw [List.length_set]; exact s.len, fun j o2 k q1 q2 => ?_, fun j j' k1 k2 b nj q1 o1 q2 o2 e1 e2 => s.ap j j' k1 k2 b nj (keepO q1 o1).2 o1 (keepO q2 o2).2 o2 e1 e2⟩
    by_cases e : i = j
    · subst e
      rw [List.getElem?_set_self hl] at q2; cases q2
      rw [hσ] at q1; cases q1
      exact ⟨_, rfl, .lst upd_same (h3.mono mo)⟩
    · rw [List.getElem?_set_ne e] at q2
      have old := s.ok j _ _ q1 q2
      cases k with
      | un => exact True.intro
      | dat d => obtain ⟨v, e1, e2⟩ := old; exact ⟨v, e1, e2.mono mo⟩
      | own _ =>
        obtain ⟨l2, w2, e2, b1, b2, b3, b4⟩ := old
        subst e2
        have nl : l2 ≠ a := fun z => by subst z; exact s.ap i j _ _ _ e hi rfl q2 rfl hσ q1
        exact ⟨l2, w2, rfl, b1, by rw [upd_ne nl]; exact b2, b3.mono mo, b4⟩
      | ow _ _ =>
        obtain ⟨l2, w2, e2, b1, bl, b2, b3, b4⟩ := old
        subst e2
        have nl : l2 ≠ a := fun z => by subst z; exact s.ap i j _ _ _ e hi rfl q2 rfl hσ q1
        exact ⟨l2, w2, rfl, b1, bl, by rw [upd_ne nl]; exact b2, b3.mono mo, b4⟩
      | odk _ _ =>
        obtain ⟨l2, w2, e2, b1, bl, b2, b3, b4⟩ := old
        subst e2
        have nl : l2 ≠ a := fun z => by subst z; exact s.ap i j _ _ _ e hi rfl q2 rfl hσ q1
        exact ⟨l2, w2, rfl, b1, bl, by rw [upd_ne nl]; exact b2, b3.mono mo, b4⟩
      | slf _ _ _ _ _ =>
        obtain ⟨l2, w2, e2, b1, bl, b2, b3, b4⟩ := old
        subst e2
        have nl : l2 ≠ a := fun z => by subst z; exact s.ap i j _ _ _ e hi rfl q2 rfl hσ q1
        exact ⟨l2, w2, rfl, b1, bl, by rw [upd_ne nl]; exact b2, b3.mono mo, b4⟩
      | pen => exact old
  have x' : Xs c (upd Hd a (.lst vs)) H := fun C dx fs Hd' H' g hc _ => absurd hc (hx C fs)
  refine h σ _ H n s' sa' (pe.freeze ne h2) l x' Q fun v d Hd' H' g pe' f r => ?_
  have gg : Grow c.p.a Hd H Hd H' := ⟨Same.refl _, g.h, (mo.trans g.d).trans g.s, fun _ _ z => z, g.m⟩
  refine q v d Hd H' gg ?_ f (rep_scalar (hs d f) r)
  cases hp : c.p with
  | none => exact True.intro
  | some ac =>
    rw [hp] at pe pe'
    obtain ⟨e1, _, _⟩ := pe'
    exact ⟨e1, pe.d, pe.c⟩
theorem evm_freeze {ds : List D} (hi : Γ[i]? = some (.own ds)) (h : EvM c te (Γ.set i (.dat (.lst ds))) m Φ) : EvM c te Γ m Φ := fun Hb Hd0 H0 σ Hd H n o l x Q q => by
  obtain ⟨a, vs, _, _, _, _, _, o'⟩ := o.freeze hi
  exact h Hb Hd0 H0 σ _ H n o' l x Q q
theorem wp_freeze {ds : List D} (i : Nat) (hi : Γ[i]? = some (.own ds)) (h : Wp c t (Γ.set i (.dat (.lst ds))) m W) : Wp c t Γ m W := fun Hb Hd0 H0 σ Hd H n o l x E k1 k2 k3 k4 => by
  obtain ⟨a, vs, _, _, _, _, _, o'⟩ := o.freeze hi
  exact h Hb Hd0 H0 σ _ H n o' l x E k1 k2 k3 k4
theorem Wp.more (h : Wp c t Γ m W) (e : m ≤ m1) : Wp c t Γ m1 W := fun Hb Hd0 H0 σ Hd H n o l x E k1 k2 k3 k4 =>
  h Hb Hd0 H0 σ Hd H n o (by omega) x E (fun a b d e f o' => k1 a b d e f (o'.more (by omega))) (fun a b d e f o' => k2 a b d e f (o'.more (by omega))) (fun a b d e f o' => k3 a b d e f (o'.more (by omega))) (fun a b d e f g pe => k4 a b d e f g (pe.more (by omega)))
theorem Wp.imp {W' : Wh} (h : Wp c t Γ m W) (eN : ∀ G, W.N G → W'.N G) (eR : ∀ d, W.R d → W'.R d) (eB : ∀ G, W.B G → W'.B G) (eC : ∀ G, W.C G → W'.C G) : Wp c t Γ m W' := fun Hb Hd0 H0 σ Hd H n o l x E k1 k2 k3 k4 =>
  h Hb Hd0 H0 σ Hd H n o l x E (fun a b d e f => k1 a b d e (eN _ f)) (fun a b d e f => k2 a b d e (eB _ f)) (fun a b d e f => k3 a b d e (eC _ f)) (fun a b d e f => k4 a b d e (eR _ f))
/-! statements -/
theorem wp_next (h : W.N Γ) : Wp c tNext Γ 0 W := fun Hb Hd0 H0 σ Hd H n o l x E k1 k2 k3 k4 => k1 Γ σ Hd H h o
theorem wp_break (h : W.B Γ) : Wp c tBreak Γ 0 W := fun Hb Hd0 H0 σ Hd H n o l x E k1 k2 k3 k4 => k2 Γ σ Hd H h o
theorem wp_cont (h : W.C Γ) : Wp c tCont Γ 0 W := fun Hb Hd0 H0 σ Hd H n o l x E k1 k2 k3 k4 => k3 Γ σ Hd H h o
theorem wp_seqW {N' : List Sk → Prop} (h : Wp c t Γ m1 { W with N := N' }) (h2 : ∀ Γ', N' Γ' → Wp c u Γ' m2 W) : Wp c (tSeq t u) Γ (m1 + m2) W := fun Hb Hd0 H0 σ Hd H n o l x E k1 k2 k3 k4 => by
  refine h Hb Hd0 H0 σ Hd H n o (by omega) x _ (fun Γ' σ' Hd' H' f o' => ?_) (fun a b d e f o' => k2 a b d e f (o'.more (by omega))) (fun a b d e f o' => k3 a b d e f (o'.more (by omega))) (fun a b d e f g pe => k4 a b d e f g (pe.more (by omega)))
  refine h2 Γ' f Hb Hd0 H0 σ' Hd' H' _ o' (by omega) x E ?_ ?_ ?_ ?_
  · intro a b d e f o2; exact k1 a b d e f (by rw [← Nat.add_assoc]; exact o2)
  · intro a b d e f o2; exact k2 a b d e f (by rw [← Nat.add_assoc]; exact o2)
  · intro a b d e f o2; exact k3 a b d e f (by rw [← Nat.add_assoc]; exact o2)
  · intro a b d e f g o2; exact k4 a b d e f g (by rw [← Nat.add_assoc]; exact o2)
theorem wp_ret (h : EvM c te Γ m (fun d _ => W.R d)) : Wp c (tRet te) Γ m W := fun Hb Hd0 H0 σ Hd H n o l x E k1 k2 k3 k4 =>
  h Hb Hd0 H0 σ Hd H n o l x _ fun v d Γ' Hd' H' f o' r => k4 v d Hd' H' f o'.g o'.pe r
theorem wp_ret_ {d : D} (h : Ev c te Γ m (· = d)) (e : W.R d) : Wp c (tRet te) Γ m W := wp_ret (h.toM.imp fun d' _ z => by rw [z.2]; exact e)
theorem wp_retE (h : Ev c te Γ m W.R) : Wp c (tRet te) Γ m W := wp_ret (h.toM.imp fun d' _ z => z.2)
theorem wp_retN (h : W.R .non) : Wp c tRetN Γ 0 W := fun Hb Hd0 H0 σ Hd H n o l x E k1 k2 k3 k4 => k4 .non .non Hd H h o.g o.pe .non
theorem wp_asg {j : Nat} (h : EvM c te Γ m (fun d Γ' => W.N (Γ'.set j (.dat d)))) : Wp c (tAsg te (gName j)) Γ m W := fun Hb Hd0 H0 σ Hd H n o l x E k1 k2 k3 k4 =>
  h Hb Hd0 H0 σ Hd H n o l x _ fun v d Γ' Hd' H' f o' r => k1 _ _ Hd' H' f (o'.set r)
/-- x = e; rest -/
theorem wq_asg {j : Nat} {φ : D → Prop} (h : Ev c te Γ m1 φ) (k : ∀ d, φ d → Wp c u (Γ.set j (.dat d)) m2 W) : Wp c (tSeq (tAsg te (gName j)) u) Γ (m1 + m2) W :=
  wp_seqW (N' := fun Γ' => ∃ d, φ d ∧ Γ' = Γ.set j (.dat d)) (wp_asg (h.toM.imp fun d G ⟨e, f⟩ => ⟨d, f, by rw [e]⟩)) fun Γ' ⟨d, f, e⟩ => by rw [e]; exact k d f
theorem wq_asg_ {j : Nat} {d : D} (h : Ev c te Γ m1 (· = d)) (k : Wp c u (Γ.set j (.dat d)) m2 W) : Wp c (tSeq (tAsg te (gName j)) u) Γ (m1 + m2) W := wq_asg h fun _ e => by rw [e]; exact k
theorem wq_asgM {j : Nat} (h : EvM c te Γ m1 Φ) (k : ∀ d G, Φ d G → Wp c u (G.set j (.dat d)) m2 W) : Wp c (tSeq (tAsg te (gName j)) u) Γ (m1 + m2) W :=
  wp_seqW (N' := fun Γ' => ∃ d G, Φ d G ∧ Γ' = G.set j (.dat d)) (wp_asg (h.imp fun d G f => ⟨d, G, f, rfl⟩)) fun Γ' ⟨d, G, f, e⟩ => by rw [e]; exact k d G f
/-- xs = [..], a list that will be changed -/
theorem wp_asgOwn {ta : TA} {j : Nat} {ψ : List D → Prop} (h : EvA c ta Γ m ψ) (hl : ∀ ds, ψ ds → ds.length ≤ 1000) (k : ∀ ds, ψ ds → W.N (Γ.set j (.own ds))) : Wp c (tAsg (tLst ta) (gName j)) Γ m W := fun Hb Hd0 H0 σ Hd H n o l x E k1 k2 k3 k4 =>
  h σ Hd H n o.sr o.g.s o.pe l (x.grow o.g) _ fun vs ds Hd' H' g pe f r => ⟨Nat.le_of_lt (small1000 (by rw [r.length]; exact hl ds f)), fun a ha => k1 _ _ _ _ (k ds f) ((o.grow g pe).newOwn ha r)⟩
theorem wq_asgOwn {ta : TA} {j : Nat} {ds : List D} (h : EvA c ta Γ m1 (· = ds)) (k : Wp c u (Γ.set j (.own ds)) m2 W) (hl : ds.length ≤ 1000 := by first | decide | simp) : Wp c (tSeq (tAsg (tLst ta) (gName j)) u) Γ (m1 + m2) W :=
  wp_seqW (N' := fun G => G = Γ.set j (.own ds)) (wp_asgOwn h (fun _ e => by rw [e]; exact hl) fun _ e => by rw [e]) fun _ e => by rw [e]; exact k
theorem wp_drop (h : EvM c te Γ m (fun _ G => W.N G)) : Wp c (tDrop te) Γ m W := fun Hb Hd0 H0 σ Hd H n o l x E k1 k2 k3 k4 =>
  h Hb Hd0 H0 σ Hd H n o l x _ fun v d Γ' Hd' H' f o' r => k1 _ _ Hd' H' f o'
theorem wp_if {β : Bool → Prop} (h : EvB c tt Γ m1 β) (h1 : β true → Wp c t Γ m2 W) (h2 : β false → Wp c u Γ m2 W) : Wp c (tIfS tt t u) Γ (m1 + m2) W := fun Hb Hd0 H0 σ Hd H n o l x E k1 k2 k3 k4 =>
  h σ Hd H n o.sr o.g.s o.pe (by omega) (x.grow o.g) _ fun b Hd' H' g pe f => by
    have fin : ∀ {t' : TS}, Wp c t' Γ m2 W → t' E σ H' := fun {t'} w => by
      refine w Hb Hd0 H0 σ Hd' H' _ (o.grow g pe) (by omega) x E ?_ ?_ ?_ ?_
      · intro a b d e f o2; exact k1 a b d e f (by rw [← Nat.add_assoc]; exact o2)
      · intro a b d e f o2; exact k2 a b d e f (by rw [← Nat.add_assoc]; exact o2)
      · intro a b d e f o2; exact k3 a b d e f (by rw [← Nat.add_assoc]; exact o2)
      · intro a b d e f g o2; exact k4 a b d e f g (by rw [← Nat.add_assoc]; exact o2)
    cases b with
    | true => exact fin (h1 f)
    | false => exact fin (h2 f)
theorem wp_ifT (h : EvB c tt Γ m1 (· = true)) (h1 : Wp c t Γ m2 W) : Wp c (tIfS tt t u) Γ (m1 + m2) W := wp_if h (fun _ => h1) fun e => absurd e (by simp)
theorem wp_ifF (h : EvB c tt Γ m1 (· = false)) (h1 : Wp c u Γ m2 W) : Wp c (tIfS tt t u) Γ (m1 + m2) W := wp_if h (fun e => absurd e (by simp)) fun _ => h1
/-- if c: t; rest, the rest told in each way -/
theorem wq_if {t1 t2 : TS} {β : Bool → Prop} (h : EvB c tt Γ m1 β) (h1 : β true → Wp c (tSeq t1 u) Γ m2 W) (h2 : β false → Wp c (tSeq t2 u) Γ m2 W) : Wp c (tSeq (tIfS tt t1 t2) u) Γ (m1 + m2) W := by
  have q := wp_if (t := tSeq t1 u) (u := tSeq t2 u) h h1 h2
  exact q
theorem wq_ifT {t1 t2 : TS} (h : EvB c tt Γ m1 (· = true)) (h1 : Wp c (tSeq t1 u) Γ m2 W) : Wp c (tSeq (tIfS tt t1 t2) u) Γ (m1 + m2) W := wq_if h (fun _ => h1) fun e => absurd e (by simp)
theorem wq_ifF {t1 t2 : TS} (h : EvB c tt Γ m1 (· = false)) (h1 : Wp c (tSeq t2 u) Γ m2 W) : Wp c (tSeq (tIfS tt t1 t2) u) Γ (m1 + m2) W := wq_if h (fun e => absurd e (by simp)) fun _ => h1
theorem wq_next (h : Wp c u Γ m W) : Wp c (tSeq tNext u) Γ m W := h
theorem wq_ret (h : Wp c (tRet te) Γ m { W with N := fun _ => False }) : Wp c (tSeq (tRet te) u) Γ m W := by
  have q := wp_seqW (m2 := 0) (u := u) h fun _ f => f.elim
  exact q
theorem wq_seq {a b : TS} (h : Wp c (tSeq a (tSeq b u)) Γ m W) : Wp c (tSeq (tSeq a b) u) Γ m W := h
/-! lists of one's own -/
theorem seqix_nat {k n : Nat} (h : k < n) : seqIndex? (k : Int) n = some k := by
  unfold seqIndex?
  simp
  omega
theorem wp_append {K : PySem.W.Frag} (h : EvM c te Γ m (fun d G => ∃ ds, G[i]? = some (.own ds) ∧ ds.length < 1000000 ∧ W.N (G.set i (.own (ds ++ [d]))))) (h0 : ∃ ds, Γ[i]? = some (.own ds)) : Wp c (tDrop (tBM K "list" rAppend (tVar i) (tCons te tNil))) Γ m W := fun Hb Hd0 H0 σ Hd H n o l x E k1 k2 k3 k4 => by
  obtain ⟨ds0, h0⟩ := h0
  obtain ⟨o0, hs, a, vs, e, h1, _⟩ := o.sr.get h0
  subst e
  refine ⟨_, hs, .inl ⟨rfl, _, SqL.of h1⟩, h Hb Hd0 H0 σ Hd H n o l x _ fun v d G Hd' H' f o' r => ?_⟩
  obtain ⟨ds, g1, g2, g3⟩ := f
  obtain ⟨o2, hs2, b, ws, e, h2, h3, h4, _⟩ := o'.sr.get g1
  subst e
  rw [hs] at hs2; cases hs2
  exact ⟨a, ws, v, rfl, rfl, h2, by rw [h4.length, sizeLine_eq]; omega, k1 _ _ _ _ g3 (o'.writeOwn g1 hs (h4.append (.cons r .nil)))⟩
theorem wq_append {K : PySem.W.Frag} (h : EvM c te Γ m1 Φ) (h0 : ∃ ds, Γ[i]? = some (.own ds)) (k : ∀ d G, Φ d G → ∃ ds, G[i]? = some (.own ds) ∧ ds.length < 1000000 ∧ Wp c u (G.set i (.own (ds ++ [d]))) m2 W) : Wp c (tSeq (tDrop (tBM K "list" rAppend (tVar i) (tCons te tNil))) u) Γ (m1 + m2) W :=
  wp_seqW (N' := fun G' => Wp c u G' m2 W) (wp_append (h.imp fun d G f => k d G f) h0) fun _ w => w
theorem evm_popAt {K : PySem.W.Frag} (h : EvM c te Γ m (fun d G => ∃ (ds : List D) (k : Nat) (e : D), G[i]? = some (.own ds) ∧ d = .int (k : Int) ∧ ds[k]? = some e ∧ k < 1000000 ∧ Φ e (G.set i (.own (ds.eraseIdx k))))) (h0 : ∃ ds, Γ[i]? = some (.own ds)) :
    EvM c (tBM K "list" rPopAt (tVar i) (tCons te tNil)) Γ m Φ := fun Hb Hd0 H0 σ Hd H n o l x Q q => by
  obtain ⟨ds0, h0⟩ := h0
  obtain ⟨o0, hs, a, vs, e, h1, _⟩ := o.sr.get h0
  subst e
  refine ⟨_, hs, .inl ⟨rfl, _, SqL.of h1⟩, h Hb Hd0 H0 σ Hd H n o l x _ fun v d G Hd' H' f o' r => ?_⟩
  obtain ⟨ds, k, e, g1, g2, g3, g4, g5⟩ := f
  subst g2
  cases r
  obtain ⟨o2, hs2, b, ws, e2, h2, h3, h4, _⟩ := o'.sr.get g1
  subst e2
  rw [hs] at hs2; cases hs2
  obtain ⟨w, z1, z2⟩ := h4.get g3
  have hk : k < ws.length := (List.getElem?_eq_some_iff.mp z1).1
  exact ⟨a, ws, k, k, w, rfl, rfl, h2, by omega, by omega, seqix_nat hk, z1, q w e _ Hd' _ g5 (o'.writeOwn g1 hs (h4.erase k)) z2⟩
/-! for -/
theorem wp_for {wi : TI} {tb : TS} {ψ : List D → Prop} (Iv : List D → Nat → List Sk → Prop) (hi : EvI c wi Γ m0 ψ) (hL : ∀ ds, ψ ds → ds.length ≤ L) (h0 : ∀ ds, ψ ds → Iv ds 0 Γ)
    (hs : ∀ ds, ψ ds → ∀ i d Γ', ds[i]? = some d → Iv ds i Γ' → ∃ ps, TgD c g d ps ∧ Wp c tb (setD Γ' ps) m1 { N := Iv ds (i + 1), C := Iv ds (i + 1), B := W.N, R := W.R })
    (hd : ∀ ds, ψ ds → ∀ Γ', Iv ds ds.length Γ' → W.N Γ') : Wp c (tFor wi g tb) Γ (m0 + L * m1) W := fun Hb Hd0 H0 σ Hd H n o l x E k1 k2 k3 k4 => by
  have hm : n + m0 ≤ LIM := by have := Nat.zero_le (L * m1); omega
  refine hi σ Hd H n o.sr o.g.s o.pe hm (x.grow o.g) _ fun J ds Hd1 H1 g1 pe1 f J1 => ?_
  have hl := hL ds f
  have key : ∀ i, i ≤ ds.length → i * m1 ≤ L * m1 := fun i hi => Nat.mul_le_mul_right _ (by omega)
  have o1 := o.grow g1 pe1
  let Pv : Nat → St → Hp → Prop := fun i σx Hx => ∃ Γx Hdx, Iv ds i Γx ∧ Ok c Hd1 Hd0 H0 σx Γx Hdx Hx (n + m0 + i * m1)
  refine ⟨fun i m σx Hx => m = ds.length - i ∧ i ≤ ds.length ∧ Pv i σx Hx, ⟨ds.length, by simp, Nat.zero_le _, Γ, Hd1, h0 ds f, ⟨Same.refl _, o1.s0, o1.g, o1.sr, by rw [Nat.zero_mul]; exact o1.pe, o1.fr⟩⟩, ?_⟩
  rintro i m σx Hx ⟨rfl, hi, Γx, Hdx, ivx, ox⟩
  obtain ⟨go, stop, yld⟩ := J1 Hdx Hx ox.b ox.g.s
  have back : ∀ {σ' Γ' Hd' H' k}, Ok c Hd1 Hd0 H0 σ' Γ' Hd' H' k → Ok c Hb Hd0 H0 σ' Γ' Hd' H' k := fun o' => ⟨(o.b.trans g1.d).trans o'.b, o'.s0, o'.g, o'.sr, o'.pe, o'.fr⟩
  by_cases hlt : i < ds.length
  · refine .inr ⟨go i hlt, Pv (i + 1), fun σ' H' p' => ⟨ds.length - (i + 1), by omega, rfl, hlt, p'⟩, fun v Hy hy => ?_⟩
    have hd' : ds[i]? = some ds[i] := by simp
    obtain ⟨Hd3, g3, r3⟩ := yld i v Hy hy _ hd'
    obtain ⟨ps, tg, hb⟩ := hs ds f i _ Γx hd' ivx
    have o3 := ox.grow g3.up (ox.pe.grow g3)
    have kk := key (i + 1) hlt
    have e1 : (i + 1) * m1 = i * m1 + m1 := Nat.succ_mul _ _
    refine tg σx Hd3 Hy v Γx o3.sr o3.g.s r3 _ fun σ2 s2 _ q2 => ?_
    have o4 := o3.tg s2 q2
    refine hb Hd1 Hd0 H0 σ2 Hd3 Hy _ o4 (by omega) x _ ?_ ?_ ?_ ?_
    · intro Γ' σ' Hd' H' iv o5; exact ⟨Γ', Hd', iv, o5.more (by omega)⟩
    · intro Γ' σ' Hd' H' iv o5; exact k1 Γ' σ' Hd' H' iv (back (o5.more (by omega)))
    · intro Γ' σ' Hd' H' iv o5; exact ⟨Γ', Hd', iv, o5.more (by omega)⟩
    · intro v d Hd' H' iv g pe r; exact k4 v d Hd' H' iv g (pe.more (by omega)) r
  · have e : i = ds.length := by omega
    subst e
    have kk := key _ (Nat.le_refl ds.length)
    exact .inl ⟨stop _ (Nat.le_refl _), k1 _ _ _ _ (hd ds f Γx ivx) (back (ox.more (by omega)))⟩
end
end DL
set_option maxRecDepth 100000
set_option maxHeartbeats 4000000
/-! DLg: promises of defs that are called while nothing is being shown (A.guards = some []): FnG in the place of FnOk. -/
namespace DL
open PySem L2 PySem.Spec PyProof.Rows
abbrev NoG (A : Around) : Prop := A.guards = some []

structure FnG (P : Program) (w : World) (K : PySem.W.Frag) (mg : Str → Option Value) (base : Heap) (CX : CXT) (k : Nat) (f : Addr) (fd : FuncData) (ps : List Str) (sp : Sp) : Prop where
  len : ∀ vs H Q E, sp vs H Q E → vs.length = ps.length
  run : ∀ (A : Around), Room k A → NoG A → ∀ (outer : List Env) (s : Shared) (H : Hp) (args : Args) (us : List Value) (vs : List V) (Q : VK) (E : XK), Env0 P w K mg base A outer s H → BindsTo s fd args (ps.zip us) → Vals vs us →
    sp vs H Q E → codeAny (model P w) A (.call (.ref f) args) (CR CX outer P w H s Q E) s
/-- a def of the text as it stands behind the top, with or without defaults -/
structure FunV (K : PySem.W.Frag) (x qual : Str) (st : Stmt) (f : Addr) (fd : FuncData) : Prop where
  ex : ∃ (oc : Value) (od : Option Addr) (dV kV doc pm : Value) (an : Option Addr) (cdv ct : Value) (osl : Array (Option Value)),
    fd = PySem.W.fnOf x qual (defArgs st) (defBody st) (defScope st) dV kV doc pm an cdv ct ∧ K.lookup f = some ⟨oc, od, .func fd, osl⟩ ∧ PySem.W.codeIn K cdv qual = true
  kp : PySem.W.keepIn K (.ref f) = true
section
variable {P : Program} {w : World} {K : PySem.W.Frag} {mg : Str → Option Value} {base : Heap} {CX : CXT} {j k : Nat} {f : Addr} {fd : FuncData} {ps N : List Str} {sp sp' : Sp} {x qual : Str} {st : Stmt}
theorem FnG.mono (F : FnG P w K mg base CX j f fd ps sp) (h : j ≤ k) : FnG P w K mg base CX k f fd ps sp := ⟨F.len, fun A r => F.run A (r.mono h)⟩
theorem FnG.imp (F : FnG P w K mg base CX k f fd ps sp) (h : ∀ vs H Q E, sp' vs H Q E → sp vs H Q E) : FnG P w K mg base CX k f fd ps sp' :=
  ⟨fun vs H Q E z => F.len _ _ _ _ (h vs H Q E z), fun A r g outer s H args us vs Q E e0 b rv z => F.run A r g outer s H args us vs Q E e0 b rv (h _ _ _ _ z)⟩
/-- a def by its body -/
theorem fng_of (F : FunV K x qual st f fd) (S : FnScope N ps (defScope st)) (len : ∀ vs H Q E, sp vs H Q E → vs.length = ps.length)
    (hbody : ∀ (cd : Value) (A : Around) (outer : List Env) (s : Shared) (H : Hp) (vs : List V) (Q : VK) (E : XK), Room k (A.deeper (envOfC qual (defScope st) s.heap.objs.size f cd)) → NoG (A.deeper (envOfC qual (defScope st) s.heap.objs.size f cd)) → sp vs H Q E →
      ∃ t, PSs (cxOf CX P w K mg base N qual (defScope st) f cd A outer s H E) (defBody st) t ∧ t { nx := fun _ H' => Q .non H', rt := Q } (L2.start N vs) H) : FnG P w K mg base CX (k + 1) f fd ps sp := by
  obtain ⟨oc, od, dV, kV, doc, pm, an, cdv, ct, osl, rfl, lk, hcd⟩ := F.ex
  refine ⟨len, fun A room ng outer s H args us vs Q E env bnd rel wish => ?_⟩
  have inK : K.In s.heap := env.mod.kin.keeps fun b o e => (env.bs b o e).1
  have noLim : s.heap.NoLimit := env.mod.nolimit.keeps fun b o e => (env.bs b o e).1
  refine codeAny_call_function room.depth (inK _ _ lk) rfl S.co S.gen rfl (PySem.W.codeRec_of inK hcd) (bnd _ _ _ _ (wpAny_newFunctionEnv_cells S.kind (fun y hy => ?_) fun env' he s1 laid => ?_))
  · rcases S.par y.1 (List.of_mem_zip hy).1 with q | q
    · exact .inl q
    · exact .inr ⟨q, PySem.W.cellsFrom_some _ _ _ (.inl q)⟩
  · subst he
    obtain ⟨t, ht, hq⟩ := hbody cdv A outer s H vs Q E (room.deeper _) ng wish
    refine ⟨noLim.keeps laid.toInCall.keep, codeAny_func ?_⟩
    refine wpAny_mono (ht.run [] s1 _ H _ (inv_start S room.hd env (len _ _ _ _ wish) rel laid) hq) (fun flow s' got => ?_) fun _ _ got => got
    cases flow with
    | ret u => obtain ⟨v, _, H', J, rv, z⟩ := got; exact ⟨v, H', J.os, J.bare, J.base, J.hok, rv, z⟩
    | next => obtain ⟨_, H', J, z⟩ := got; exact ⟨V.non, H', J.os, J.bare, J.base, J.hok, rfl, z⟩
    | brk => obtain ⟨_, _, _, z⟩ := got; exact z.elim
    | cont => obtain ⟨_, _, _, z⟩ := got; exact z.elim
end
section
variable {X : Cx} {CX : CXT} {k : Nat} {f C : Addr} {fd : FuncData} {ps : List Str} {sp : Sp} {E : XK} {x m : Str} {p pos apos : Pos} {e o : Expr} {es : List Expr} {ta : TE} {t : TA} {ds : List Value} {dvs : List V}
theorem rung {pins : List (Addr × Obj)} {σ : L2.St} {H : Hp} {s : Shared} {Q : VK} {us : List Value} {vs : List V} (F : FnG X.prog X.w X.K X.mg X.base CX k f fd ps sp) (hr : Room k X.A) (ng : NoG X.A) (hb : Binds X.K fd ps ds) (hd : Vals dvs ds) (hx : Passes CX X E)
    (I : L2.Inv X pins σ H s) (r : Vals vs us) (h : sp (vs ++ dvs) H Q E) : wpAny (model X.prog X.w) X.A (call (.ref f) us) (EP X pins σ Q) X.xe s := by
  have both := r.append hd
  have same : (us ++ ds).length = ps.length := both.length.symm.trans (F.len _ _ _ _ h)
  refine wpAny_call (codeAny_mono (F.run X.A hr ng X.stack s H ⟨us, []⟩ _ _ Q E I.env0 (hb s us I.kIn same) both h) fun res s' got => ?_)
  cases res with
  | error er => exact hx pins σ H s er s' I got
  | ok flow => cases flow with
    | ret u => exact I.after got
    | next => exact got.elim
    | brk => exact got.elim
    | cont => exact got.elim
/-- f(a, ..) -/
theorem peg_call (F : FnG X.prog X.w X.K X.mg X.base CX k f fd ps sp) (hr : Room k X.A) (ng : NoG X.A) (hg : Gl X x) (hm : X.mg x = some (.ref f)) (hk : PySem.W.keepIn X.K (.ref f) = true) (hb : Binds X.K fd ps ds) (hd : Vals dvs ds) (hx : Passes CX X E) (ha : PA X (e :: es) t)
    (h1 : (x == ("__debug__" : Str)) = false := by decide) (h2 : starEach (e :: es) X.env = (false, eval e X.env) :: starEach es X.env := by rfl) (h3 : (backTo pos (starEach es X.env)).any (·.1) = false := by rfl) : PE X (.Call (.Name x p) (e :: es) [] pos) (tCall sp dvs E t) := by
  refine ⟨fun pins s0 σ0 Hp0 Qq Iv hw => wpAny_Call_Name_kw (ld_glob Iv hg hm ?_ h1)⟩
  refine PySem.W.callWith_K (h₀ := X.base) Iv.ok.mod.kin hk (thn (ha.run pos pins s0 σ0 Hp0 _ Iv hw) fun us st got => ?_) h2 h3
  obtain ⟨vs, Hx, Ix, rx, qx⟩ := got
  exact ⟨Ix.kIn, rung F hr ng hb hd hx Ix rx qx⟩
/-- f() -/
theorem peg_call0 (F : FnG X.prog X.w X.K X.mg X.base CX k f fd ps sp) (hr : Room k X.A) (ng : NoG X.A) (hg : Gl X x) (hm : X.mg x = some (.ref f)) (hk : PySem.W.keepIn X.K (.ref f) = true) (hb : Binds X.K fd ps ds) (hd : Vals dvs ds) (hx : Passes CX X E)
    (h1 : (x == ("__debug__" : Str)) = false := by decide) : PE X (.Call (.Name x p) [] [] pos) (tCall sp dvs E tNil) := by
  refine ⟨fun pins s0 σ0 Hp0 Qq Iv hw => wpAny_Call_Name_kw (ld_glob Iv hg hm ?_ h1)⟩
  exact PySem.W.callWith_K0 Iv.kIn hk (rung F hr ng hb hd hx Iv .nil hw)
end
/-! ### the end of a law -/
section
variable {P : Program} {w : World} {K : PySem.W.Frag} {mg mb : Str → Option Value} {k : Nat} {fa a : Addr} {fd : FuncData} {x : Str} {sp : Sp} {s₁ : Shared} {vs : List Value} {ns : List Int}
theorem law_coreG {H : Hp} (KX : K.In s₁.heap) (hns : s₁.heap.Ns mainGlobals mg) (hb : s₁.heap.Ns builtinsNs mb) (hbb : ∀ x : Str, x ≠ "__name__" → mb x = bootBuiltins x) (hlim : s₁.heap.NoLimit) (hg : s₁.gens = #[])
    (ha : s₁.heap.get? a = some { cls := .type "list", data := .seq vs.toArray }) (hr : Room k callerA) (F : ∀ base : Heap, K.In base → base.Ns mainGlobals mg → FnG P w K mg base CX0 k fa fd [x] sp) (hbind : ∀ (s : Shared) (u : Value), BindsTo s fd ⟨[u], []⟩ [(x, u)])
    (hO : Only H) (hS : sp [.ref a] H (fun v _ => v = .bl true) fun _ _ _ => False) (hok : HOk P w H s₁.heap) (hA : ∀ b, H b ≠ none → b = a) (hK : H a ≠ none → K.lookup a = none) :
    codeAny (model P w) callerA (.call (.ref fa) ⟨[.ref a], []⟩) (fun r s' => r = .ok (.ret (.bool true)) ∧ OldK s₁.heap s'.heap ∧ s'.os = s₁.os ∧ AllBare s'.gens) s₁ := by
  have plain : ∀ {b : Addr} {u : HO}, H b = some u → b = a := fun {b u} z => hA b (by rw [z]; exact fun q => nomatch q)
  have under : ∀ {b : Addr} {mm : Str → Option Value}, s₁.heap.Ns b mm → (hidT s₁.heap H).Ns b mm := fun {b mm} z => by
    obtain ⟨ob, es, ep, z1, z2, z3⟩ := z
    refine ⟨ob, es, ep, hidT_get z1 ?_, z2, z3⟩
    cases q : H b with
    | none => rfl
    | some u =>
      rw [plain q, ha] at z1
      cases z1
      cases z2
  have kin : K.In (hidT s₁.heap H) := fun b ob z => by
    refine hidT_get (KX b ob z) ?_
    cases q : H b with
    | none => rfl
    | some u =>
      have eb := plain q
      subst eb
      rw [hK (by rw [q]; exact fun y => nomatch y)] at z
      cases z
  obtain ⟨mc, l1, l2⟩ := hlim
  have env : Env0 P w K mg (hidT s₁.heap H) callerA [] s₁ H := ⟨rfl, ⟨kin, under hns, ⟨mb, under hb, hbb⟩, mc, under l1, l2⟩, fun b ob z => of_hidT z, Nat.le_of_eq (hidT_size _ _), trivial, fun b z => (List.not_mem_nil z).elim, hok, .of_eq hg⟩
  refine codeAny_mono ((F _ kin (under hns)).run callerA hr rfl [] s₁ H ⟨[.ref a], []⟩ [.ref a] [.ref a] _ _ env (hbind s₁ (.ref a)) (.cons rfl .nil) hS) fun res s' got => ?_
  cases res with
  | error er => exact got.elim
  | ok flow => cases flow with
    | next => exact got.elim
    | brk => exact got.elim
    | cont => exact got.elim
    | ret u =>
      obtain ⟨v, H2, hos, hbare, un, hok2, rv, isT⟩ := got
      have isT' : v = .bl true := isT
      subst isT'
      cases rv
      refine ⟨rfl, OldK.of_keep fun b ob z => ?_, hos, hbare⟩
      rcases hO b with q | ⟨o2, xs, q⟩
      · exact un.keep b ob z q (fun y => (List.not_mem_nil y).elim) fun y => (List.not_mem_nil y).elim
      · obtain ⟨z1, _⟩ := hok b _ q
        obtain ⟨z2, _⟩ := hok2 b _ (un.frzs b o2 _ q)
        rw [z] at z1
        cases z1
        exact z2
theorem law_callG (KX : K.In s₁.heap) (hns : s₁.heap.Ns mainGlobals mg) (hb : s₁.heap.Ns builtinsNs mb) (hbb : ∀ x : Str, x ≠ "__name__" → mb x = bootBuiltins x) (hlim : s₁.heap.NoLimit) (hg : s₁.gens = #[])
    (ha : s₁.heap.get? a = some { cls := .type "list", data := .seq vs.toArray }) (hi : IntsAre vs ns) (hl : ns.length ≤ sizeLine) (hr : Room k callerA) (F : ∀ base : Heap, K.In base → base.Ns mainGlobals mg → FnG P w K mg base CX0 k fa fd [x] sp) (hbind : ∀ (s : Shared) (u : Value), BindsTo s fd ⟨[u], []⟩ [(x, u)])
    (hsp : ∀ H : Hp, Only H → SqL K H a (ns.map V.int) → sp [.ref a] H (fun v _ => v = .bl true) fun _ _ _ => False) :
    codeAny (model P w) callerA (.call (.ref fa) ⟨[.ref a], []⟩) (fun r s' => r = .ok (.ret (.bool true)) ∧ OldK s₁.heap s'.heap ∧ s'.os = s₁.os ∧ AllBare s'.gens) s₁ := by
  have rel := vals_ints hi
  have cnt := hi.length
  cases look : K.lookup a with
  | some ob =>
    have same := (KX a ob look).symm.trans ha
    cases same
    have only : Only (fun _ => none) := fun _ => .inl rfl
    have inK : SqL K (fun _ => none) a (ns.map V.int) := .inr ⟨_, vs.toArray, _, look, rfl, rfl, rfl, by rw [List.size_toArray, cnt]; exact hl, by simpa using rel⟩
    exact law_coreG KX hns hb hbb hlim hg ha hr F hbind only (hsp _ only inK) (fun b u z => nomatch z) (fun b z => absurd rfl z) fun z => absurd rfl z
  | none =>
    let Hs : Hp := fun b => if b = a then some (.frz { cls := .type "list", data := .seq vs.toArray } (.lst (ns.map V.int))) else none
    have at_ : Hs a = some (.frz { cls := .type "list", data := .seq vs.toArray } (.lst (ns.map V.int))) := if_pos rfl
    have off : ∀ b, b ≠ a → Hs b = none := fun b z => if_neg z
    have only : Only Hs := fun b => by
      by_cases q : b = a
      · subst q; exact .inr ⟨_, _, at_⟩
      · exact .inl (off b q)
    refine law_coreG KX hns hb hbb hlim hg ha hr F hbind only (hsp _ only (.inl (.inr ⟨_, at_⟩))) (fun b u z => ?_) (fun b z => ?_) fun _ => look
    · by_cases q : b = a
      · subst q
        rw [at_] at z
        cases z
        exact ⟨ha, by rw [List.length_map]; exact hl, vs, _, rel, ha⟩
      · rw [off b q] at z; cases z
    · by_cases q : b = a
      · exact q
      · exact absurd (off b q) z
end
theorem walk_ofG {l : PySem.W.OpenLaw} {n k : Nat} {q : Program} {loose : List Str} {XP : (Str → Option Value) → Heap → Prop} {YP : World → Heap → Prop} {d : DefRec} {K : Params → PySem.W.Frag} {sp : PySem.W.Frag → Sp} {x : Str} (hn : l.most = some n) (hn2 : n ≤ sizeLine) (hdf : d.params.defaults = []) (hr : Room k callerA)
    (hY : ∀ (w : World) (h : Heap), YP w h → (K w.params).In h)
    (F : ∀ (w : World) (mg : Str → Option Value) (fa : Addr) (h : Heap), (K w.params).In h → h.Ns mainGlobals mg → mg d.name = some (.ref fa) → ∃ fd : FuncData, (∀ (s : Shared) (u : Value), BindsTo s fd ⟨[u], []⟩ [(x, u)]) ∧
        ∀ base : Heap, (K w.params).In base → base.Ns mainGlobals mg → FnG l.prog w (K w.params) mg base CX0 k fa fd [x] (sp (K w.params)))
    (hsp : ∀ (K : PySem.W.Frag) (H : Hp) (a : Addr) (ns : List Int), ns.length ≤ n → Only H → SqL K H a (ns.map V.int) → sp K [.ref a] H (fun v _ => v = .bl true) fun _ _ _ => False) :
    PySem.W.WalkO q loose XP YP l.row.toRowW d [] (fun f vs => PySem.call f vs) := by
  refine Att.attach_call hn hdf fun w s₀ s₁ mg mb fa o pm cd doc a vs ns G Y ho hd hcd hmg hobj hints hlen hg => ?_
  have inK := hY w _ Y
  obtain ⟨fd, hb, hF⟩ := F w mg fa _ inK G.T.g hmg
  exact law_callG inK G.T.g G.T.b G.T.builtins G.T.nolimit hg hobj hints (Nat.le_trans hlen hn2) hr hF hb fun H h1 h2 => hsp _ H a ns hlen h1 h2
end DL
set_option maxRecDepth 100000
set_option maxHeartbeats 4000000
/-! DL6: promises over data, calls, a def's own theorem. -/
namespace DL
open PySem L2

/-- a def that only reads data and hands data back -/
def SpP (K : PySem.W.Frag) (pre : List D → Prop) (post : List D → D → Prop) : Sp := fun vs H Q _ => ∃ Hd ds, Same Hd H ∧ Reps K Hd vs ds ∧ pre ds ∧ ∀ v d Hd' H', Grow none Hd H Hd' H' → post ds d → Rep K Hd' v d → Q v H'
/-- .. and may raise -/
def SpX (K : PySem.W.Frag) (pre : List D → Prop) (post : List D → D → Prop) (χ : List D → Addr → List (Str × D) → Prop) : Sp := fun vs H Q E => ∃ Hd ds, Same Hd H ∧ Reps K Hd vs ds ∧ pre ds ∧
  (∀ v d Hd' H', Grow none Hd H Hd' H' → post ds d → Rep K Hd' v d → Q v H') ∧ ∀ C dx fs Hd' H', Grow none Hd H Hd' H' → χ ds C fs → XAt K Hd' H' dx fs → E (.ref C) (some dx) H'
/-- a def that draws by the pen, its first argument -/
def SpG (K : PySem.W.Frag) (m : Nat) (pre : List D → Prop) (post : List D → D → Prop) : Sp := fun vs H Q _ => ∃ a cc vs' Hd ds n, vs = .ref a :: vs' ∧ Same Hd H ∧ PenAt n Hd H a cc ∧ n + m ≤ LIM ∧ Reps K Hd vs' ds ∧ pre ds ∧
  ∀ v d Hd' H', Grow (some a) Hd H Hd' H' → PenAt (n + m) Hd' H' a cc → post ds d → Rep K Hd' v d → Q v H'

section
variable {c : Ct} {Γ : List Sk} {m m1 : Nat} {φ : D → Prop} {ta : TA} {ψ : List D → Prop} {pre : List D → Prop} {post : List D → D → Prop} {χ : List D → Addr → List (Str × D) → Prop} {E : XK} {i : Nat}
theorem ev_call {K : PySem.W.Frag} (hK : K = c.K) (h : EvA c ta Γ m ψ) (hp : ∀ ds, ψ ds → pre ds) (hq : ∀ ds d, ψ ds → post ds d → φ d) : Ev c (tCall (SpP K pre post) [] E ta) Γ m φ := fun σ Hd H n s sa pe l x Q q =>
  h σ Hd H n s sa pe l x _ fun vs ds Hd1 H1 g1 pe1 f r => by
    subst hK
    refine ⟨Hd1, ds, g1.s, by rw [List.append_nil]; exact r, hp ds f, fun v d Hd2 H2 g2 f2 r2 => q v d Hd2 H2 (g1.trans g2.up) (pe1.grow g2) (hq ds d f f2) r2⟩
theorem ev_call_ {K : PySem.W.Frag} {ds : List D} {r : D} (h : EvA c ta Γ m (· = ds)) (hp : pre ds) (hq : ∀ d, post ds d → d = r) (hK : K = c.K := by rfl) : Ev c (tCall (SpP K pre post) [] E ta) Γ m (· = r) := ev_call hK h (fun _ e => by rw [e]; exact hp) fun _ d e q => by rw [e] at q; exact hq d q
theorem ev_callX {K : PySem.W.Frag} (hK : K = c.K) (hE : E = c.E) (h : EvA c ta Γ m ψ) (hp : ∀ ds, ψ ds → pre ds) (hq : ∀ ds d, ψ ds → post ds d → φ d) (hx : ∀ ds C fs, ψ ds → χ ds C fs → c.χ C fs) : Ev c (tCall (SpX K pre post χ) [] E ta) Γ m φ := fun σ Hd H n s sa pe l x Q q =>
  h σ Hd H n s sa pe l x _ fun vs ds Hd1 H1 g1 pe1 f r => by
    subst hK
    subst hE
    exact ⟨Hd1, ds, g1.s, by rw [List.append_nil]; exact r, hp ds f, fun v d Hd2 H2 g2 f2 r2 => q v d Hd2 H2 (g1.trans g2.up) (pe1.grow g2) (hq ds d f f2) r2, fun C dx fs Hd2 H2 g2 f2 x2 => x C dx fs Hd2 H2 (g1.trans g2.up) (hx ds C fs f f2) x2⟩
/-- a call that cannot raise here -/
theorem ev_callX0 {K : PySem.W.Frag} (hK : K = c.K) (h : EvA c ta Γ m ψ) (hp : ∀ ds, ψ ds → pre ds) (hq : ∀ ds d, ψ ds → post ds d → φ d) (hx : ∀ ds C fs, ψ ds → ¬ χ ds C fs) : Ev c (tCall (SpX K pre post χ) [] E ta) Γ m φ := fun σ Hd H n s sa pe l x Q q =>
  h σ Hd H n s sa pe l x _ fun vs ds Hd1 H1 g1 pe1 f r => by
    subst hK
    exact ⟨Hd1, ds, g1.s, by rw [List.append_nil]; exact r, hp ds f, fun v d Hd2 H2 g2 f2 r2 => q v d Hd2 H2 (g1.trans g2.up) (pe1.grow g2) (hq ds d f f2) r2, fun C dx fs Hd2 H2 g2 f2 x2 => absurd f2 (hx ds C fs f)⟩
theorem ev_callG {K : PySem.W.Frag} {k : Nat} (hK : K = c.K) (hi : Γ[i]? = some .pen) (h : EvA c ta Γ m ψ) (hp : ∀ ds, ψ ds → pre ds) (hq : ∀ ds d, ψ ds → post ds d → φ d) : Ev c (tCall (SpG K k pre post) [] E (tCons (tVar i) ta)) Γ (m + k) φ := fun σ Hd H n s sa pe l x Q q => by
  obtain ⟨o, hs, a, e, ep⟩ := s.get hi
  subst e
  refine ⟨_, hs, h σ Hd H n s sa pe (by omega) x _ fun vs ds Hd1 H1 g1 pe1 f r => ?_⟩
  subst hK
  cases hcp : c.p with
  | none => rw [hcp] at ep; cases ep
  | some ac =>
    obtain ⟨a', cc⟩ := ac
    rw [hcp] at ep pe1
    have ea : a' = a := by simpa using ep
    subst ea
    refine ⟨a', cc, vs, Hd1, ds, n + m, by rw [List.append_nil], g1.s, pe1, by omega, r, hp ds f, fun v d Hd2 H2 g2 p2 f2 r2 => q v d Hd2 H2 (g1.trans (by rw [hcp]; exact g2)) (by rw [hcp, ← Nat.add_assoc]; exact p2) (hq ds d f f2) r2⟩
theorem ev_callG_ {K : PySem.W.Frag} {k : Nat} {ds : List D} (h : EvA c ta Γ m (· = ds)) (hp : pre ds) (hi : Γ[i]? = some .pen := by rfl) (hK : K = c.K := by rfl) : Ev c (tCall (SpG K k pre post) [] E (tCons (tVar i) ta)) Γ (m + k) (post ds) := ev_callG hK hi h (fun _ e => by rw [e]; exact hp) fun _ d e q => by rw [e] at q; exact q
end

/-! ### a def's own theorem -/
def G0 (N : List Str) (ds : List D) : List Sk := ds.map .dat ++ List.replicate (N.length - ds.length) .un
def G1 (N : List Str) (ds : List D) : List Sk := .pen :: (ds.map .dat ++ List.replicate (N.length - 1 - ds.length) .un)
theorem sr_start {K : PySem.W.Frag} {p : Pn} {Hd H : Hp} {N : List Str} {vs : List V} {ds : List D} (r : Reps K Hd vs ds) : SR K p Hd H (L2.start N vs) (G0 N ds) := by
  have hl := r.length
  refine ⟨by unfold L2.start G0; simp [hl], fun i o k h1 h2 => ?_, fun i j k1 k2 l ne h1 o1 h2 o2 => ?_⟩
  · unfold L2.start at h1; unfold G0 at h2
    by_cases q : i < vs.length
    · rw [List.getElem?_append_left (by simpa using q)] at h1
      rw [List.getElem?_append_left (by simp; omega)] at h2
      rw [List.getElem?_map] at h1 h2
      cases e1 : vs[i]? with
      | none => rw [e1] at h1; cases h1
      | some v =>
        obtain ⟨d, e2, rr⟩ := r.get' e1
        rw [e1] at h1; rw [e2] at h2
        cases h1; cases h2
        exact ⟨v, rfl, rr⟩
    · rw [List.getElem?_append_right (by simp; omega)] at h2
      rw [List.getElem?_replicate] at h2
      split at h2 <;> cases h2
      exact True.intro
  · unfold G0 at h1
    by_cases q : i < ds.length
    · rw [List.getElem?_append_left (by simpa using q), List.getElem?_map] at h1
      cases e1 : ds[i]? with
      | none => rw [e1] at h1; cases h1
      | some v => rw [e1] at h1; cases h1; cases o1
    · rw [List.getElem?_append_right (by simp; omega), List.getElem?_replicate] at h1
      split at h1 <;> cases h1
      cases o1
theorem G0_own {N : List Str} {ds : List D} {i : Nat} {k : Sk} (h : (G0 N ds)[i]? = some k) : k.isOwn = false := by
  unfold G0 at h
  by_cases q : i < ds.length
  · rw [List.getElem?_append_left (by simpa using q), List.getElem?_map] at h
    cases e1 : ds[i]? with
    | none => rw [e1] at h; cases h
    | some v => rw [e1] at h; cases h; rfl
  · rw [List.getElem?_append_right (by simp; omega), List.getElem?_replicate] at h
    split at h <;> cases h
    rfl
theorem sr_start1 {K : PySem.W.Frag} {a cc : Addr} {Hd H : Hp} {N : List Str} {vs : List V} {ds : List D} (r : Reps K Hd vs ds) : SR K (some (a, cc)) Hd H (L2.start N (.ref a :: vs)) (G1 N ds) := by
  have hl := r.length
  have e : L2.start N (.ref a :: vs) = some (.ref a) :: L2.start (N.drop 1) vs := by
    unfold L2.start
    simp only [List.map_cons, List.cons_append, List.length_cons, List.length_drop]
    congr 3
    omega
  have e2 : G1 N ds = .pen :: G0 (N.drop 1) ds := by unfold G1 G0; rw [List.length_drop]
  rw [e, e2]
  have s := sr_start (K := K) (p := some (a, cc)) (Hd := Hd) (H := H) (N := N.drop 1) r
  refine ⟨by rw [List.length_cons, List.length_cons, s.len], fun i o k h1 h2 => ?_, fun i j k1 k2 l ne h1 o1 h2 o2 => ?_⟩
  · cases i with
    | zero => cases h1; cases h2; exact ⟨a, rfl, rfl⟩
    | succ i => exact s.ok i o k h1 h2
  · cases i with
    | zero => cases h1; cases o1
    | succ i => rw [G0_own (show (G0 (N.drop 1) ds)[i]? = some k1 from h1)] at o1; cases o1
theorem G1_own {N : List Str} {ds : List D} {i : Nat} {k : Sk} (h : (G1 N ds)[i]? = some k) : k.isOwn = false := by
  have e2 : G1 N ds = .pen :: G0 (N.drop 1) ds := by unfold G1 G0; rw [List.length_drop]
  rw [e2] at h
  cases i with
  | zero => cases h; rfl
  | succ i => exact G0_own (show (G0 (N.drop 1) ds)[i]? = some k from h)

section
variable {P : Program} {w : World} {K : PySem.W.Frag} {mg : Str → Option Value} {base : Heap} {x qual : Str} {st : Stmt} {f : Addr} {fd : FuncData} {N ps : List Str} {k m : Nat} {pre : List D → Prop} {post : List D → D → Prop} {χ : List D → Addr → List (Str × D) → Prop}
theorem fn_P (F : FunV K x qual st f fd) (S : FnScope N ps (defScope st)) (hl : ∀ ds, pre ds → ds.length = ps.length)
    (hb : ∀ (cdv : Value) (A : Around) (outer : List Env) (s : Shared) (H : Hp) (E : XK), Room k (A.deeper (PyProof.Rows.envOfC qual (defScope st) s.heap.objs.size f cdv)) → NoG (A.deeper (PyProof.Rows.envOfC qual (defScope st) s.heap.objs.size f cdv)) → ∀ ds, pre ds →
      ∃ t, PSs (cxOf CX0 P w K mg base N qual (defScope st) f cdv A outer s H E).nox (defBody st) t ∧ ∀ p, Wp ⟨K, p, E0, fun _ _ => False⟩ t (G0 N ds) 0 (retW (post ds))) :
    FnG P w K mg base CX0 (k + 1) f fd ps (SpP K pre post) := by
  refine fng_of F S (fun vs H Q E h => ?_) (fun cdv A outer s H vs Q E hr ng h => ?_)
  · obtain ⟨Hd, ds, sa, r, hp, _⟩ := h
    rw [r.length, hl ds hp]
  · obtain ⟨Hd, ds, sa, r, hp, q⟩ := h
    obtain ⟨t, ht, hw⟩ := hb cdv A outer s H E hr ng ds hp
    refine ⟨t, ht.nox, hw none Hd Hd H _ Hd H 0 ⟨Same.refl _, sa, .refl sa, sr_start r, True.intro, fun i k' l h1 h2 _ => by rw [G0_own h1] at h2; cases h2⟩ (by decide) (fun _ _ _ _ _ _ hh _ => hh.elim) _ ?_ ?_ ?_ ?_⟩
    · intro Γ' σ' Hd' H' n o; exact q .non .non Hd' H' o.g n .non
    · intro _ _ _ _ z; exact z.elim
    · intro _ _ _ _ z; exact z.elim
    · intro v d Hd' H' n g _ r'; exact q v d Hd' H' g n r'
theorem fn_G (F : FunV K x qual st f fd) (S : FnScope N ps (defScope st)) (hl : ∀ ds, pre ds → ds.length + 1 = ps.length)
    (hb : ∀ (cdv : Value) (A : Around) (outer : List Env) (s : Shared) (H : Hp) (E : XK), Room k (A.deeper (PyProof.Rows.envOfC qual (defScope st) s.heap.objs.size f cdv)) → NoG (A.deeper (PyProof.Rows.envOfC qual (defScope st) s.heap.objs.size f cdv)) → ∀ ds, pre ds →
      ∃ t, PSs (cxOf CX0 P w K mg base N qual (defScope st) f cdv A outer s H E).nox (defBody st) t ∧ ∀ a cc, Wp ⟨K, some (a, cc), E0, fun _ _ => False⟩ t (G1 N ds) m (retW (post ds))) :
    FnG P w K mg base CX0 (k + 1) f fd ps (SpG K m pre post) := by
  refine fng_of F S (fun vs H Q E h => ?_) (fun cdv A outer s H vs Q E hr ng h => ?_)
  · obtain ⟨a, cc, vs', Hd, ds, n, rfl, sa, pe, hn, r, hp, _⟩ := h
    rw [List.length_cons, r.length, hl ds hp]
  · obtain ⟨a, cc, vs', Hd, ds, n, rfl, sa, pe, hn, r, hp, q⟩ := h
    obtain ⟨t, ht, hw⟩ := hb cdv A outer s H E hr ng ds hp
    refine ⟨t, ht.nox, hw a cc Hd Hd H _ Hd H n ⟨Same.refl _, sa, .refl sa, sr_start1 r, pe, fun i k' l h1 h2 _ => by rw [G1_own h1] at h2; cases h2⟩ hn (fun _ _ _ _ _ _ hh _ => hh.elim) _ ?_ ?_ ?_ ?_⟩
    · intro Γ' σ' Hd' H' n o; exact q .non .non Hd' H' o.g o.pe n .non
    · intro _ _ _ _ z; exact z.elim
    · intro _ _ _ _ z; exact z.elim
    · intro v d Hd' H' n g pe' r'; exact q v d Hd' H' g pe' n r'
end
end DL
set_option maxRecDepth 100000
set_option maxHeartbeats 4000000
/-! DL7: operations on data. -/
namespace DL
open PySem L2 PyProof.Rows

/-! ### data as the library's data -/
mutual
def D.py : D → PyData
  | .non => .none | .bl b => .bool b | .int i => .int i | .str s => .str s
  | .lst ds => .list (D.pys ds) | .tup ds => .tuple (D.pys ds)
  | .dct _ _ => .none | .obj _ _ _ => .none | .exc _ _ _ _ => .none | .ptr _ => .none | .err _ _ _ => .none
def D.pys : List D → List PyData
  | [] => []
  | d :: ds => D.py d :: D.pys ds
end
mutual
/-- plain data: no dicts, no objects -/
def D.plain : D → Bool
  | .lst ds => D.plains ds | .tup ds => D.plains ds
  | .dct _ _ => false | .obj _ _ _ => false | .exc _ _ _ _ => false | .ptr _ => false | .err _ _ _ => false
  | _ => true
def D.plains : List D → Bool
  | [] => true
  | d :: ds => D.plain d && D.plains ds
end
mutual
theorem Rep.dp {K : PySem.W.Frag} {H : Hp} : ∀ {v : V} {d : D}, d.plain = true → Rep K H v d → Dp K H v d.py
  | _, _, _, .non => .non
  | _, _, _, .bl b => .bl b
  | _, _, _, .int i => .int i
  | _, _, _, .str x => .str x
  | _, .lst ds, p, .lst h r => .lst (SqL.of h) (Reps.dp p r)
  | _, .tup ds, p, .tup h r => .tup h (Reps.dp p r)
theorem Reps.dp {K : PySem.W.Frag} {H : Hp} : ∀ {vs : List V} {ds : List D}, D.plains ds = true → Reps K H vs ds → DpAll K H vs (D.pys ds)
  | _, _, _, .nil => .nil
  | _, d :: ds, p, .cons h r => by
    have p' := Bool.and_eq_true_iff.mp (show (D.plain d && D.plains ds) = true from p)
    exact .cons (Rep.dp p'.1 h) (Reps.dp p'.2 r)
end
/-- data that == may be asked of -/
def D.ok (d : D) : Bool := d.plain && SeqAt.shaped d.py
theorem D.ok_plain {d : D} (h : d.ok = true) : d.plain = true := (Bool.and_eq_true_iff.mp h).1
theorem D.ok_shaped {d : D} (h : d.ok = true) : SeqAt.shaped d.py = true := (Bool.and_eq_true_iff.mp h).2
def D.eqv (a b : D) : Bool := PyData.eqv a.py b.py
/-- a flat thing -/
def D.flat : D → Bool
  | .non => true | .bl _ => true | .int _ => true | .str _ => true | _ => false
def D.v : D → V
  | .non => .non | .bl b => .bl b | .int i => .int i | .str s => .str s | _ => .non
theorem Rep.flat {K : PySem.W.Frag} {H : Hp} {v : V} {d : D} (f : d.flat = true) (r : Rep K H v d) : v = d.v := by
  cases r <;> first | rfl | cases f
theorem Reps.flat {K : PySem.W.Frag} {H : Hp} : ∀ {vs : List V} {ds : List D}, ds.all D.flat = true → Reps K H vs ds → vs = ds.map D.v
  | _, _, _, .nil => rfl
  | _, d :: ds, f, .cons h r => by
    rw [List.all_cons, Bool.and_eq_true] at f
    rw [Rep.flat f.1 h, Reps.flat f.2 r]; rfl
theorem flat_v {d : D} (f : d.flat = true) : flatV d.v = true := by cases d <;> first | rfl | cases f
theorem flat_vs : ∀ {ds : List D}, ds.all D.flat = true → (ds.map D.v).all flatV = true
  | [], _ => rfl
  | d :: ds, f => by
    rw [List.all_cons, Bool.and_eq_true] at f
    rw [List.map_cons, List.all_cons, flat_v f.1, flat_vs f.2]; rfl
/-- the class of a value -/
def D.ty : D → String
  | .non => "NoneType" | .bl _ => "bool" | .int _ => "int" | .str _ => "str" | .lst _ => "list" | .tup _ => "tuple" | .dct _ _ => "dict" | .obj _ _ _ => "object" | .exc _ _ _ _ => "object" | .ptr _ => "object" | .err _ _ _ => "object"
def D.builtin : D → Bool
  | .obj _ _ _ => false | .exc _ _ _ _ => false | .ptr _ => false | .err _ _ _ => false | _ => true
theorem rep_ty {K : PySem.W.Frag} {Hd H : Hp} {v : V} {d : D} (s : Same Hd H) (b : d.builtin = true) (r : Rep K Hd v d) : TyX K H v (.type d.ty) := by
  cases r with
  | non => exact .base .non
  | bl k => exact .base (.bl k)
  | int k => exact .base (.int k)
  | str k => exact .base (.str k)
  | lst h r => exact .base (.lst (s _ _ h))
  | tup h r =>
    rcases h with (h | ⟨o, h⟩) | ⟨o, its, n, h, hc, _⟩
    · exact .base (.tup (s _ _ h))
    · exact .fTuple (s _ _ h)
    · exact .kTuple h hc
  | dct h _ _ => exact .base (.dK (s _ _ h))
  | obj _ _ _ => cases b
  | exc => cases b
  | ptr => cases b
  | err => cases b
  | err0 => cases b

section
variable {c : Ct} {φ : D → Prop}
theorem o2_c {r : R2} {a b d : D} (h : ∀ x y Hd H, Same Hd H → Rep c.K Hd x a → Rep c.K Hd y b → ∃ v, (∀ Q : VK, Q v H → r x y H Q) ∧ Rep c.K Hd v d) : Op2 c r a b (· = d) := fun x y Hd H s ra rb Q q => by
  obtain ⟨v, h1, h2⟩ := h x y Hd H s ra rb
  exact h1 Q (q v d Hd H (.refl s) rfl h2)
/-! ints -/
theorem o2_I {g : Int → Int → Int} {i j : Int} : Op2 c (rI0 fun i j => .int (g i j)) (.int i) (.int j) (· = .int (g i j)) := o2_c fun x y Hd H s ra rb => by
  cases ra; cases rb
  exact ⟨_, fun Q q => ⟨i, j, rfl, rfl, q⟩, .int _⟩
theorem o2_B {g : Int → Int → Bool} {i j : Int} : Op2 c (rI0 fun i j => .bl (g i j)) (.int i) (.int j) (· = .bl (g i j)) := o2_c fun x y Hd H s ra rb => by
  cases ra; cases rb
  exact ⟨_, fun Q q => ⟨i, j, rfl, rfl, q⟩, .bl _⟩
theorem o2_IC {C : Int → Int → Prop} {g : Int → Int → Int} {i j : Int} (hc : C i j) : Op2 c (rI C fun i j => .int (g i j)) (.int i) (.int j) (· = .int (g i j)) := o2_c fun x y Hd H s ra rb => by
  cases ra; cases rb
  exact ⟨_, fun Q q => ⟨i, j, rfl, rfl, hc, q⟩, .int _⟩
/-! + of anything -/
def rAddU (K : PySem.W.Frag) : R2 := fun x y H Q => rI0 (fun i j => .int (i + j)) x y H Q ∨ (∃ i j, x = .str i ∧ y = .str j ∧ i.length + j.length ≤ sizeLine ∧ Q (.str (i ++ j)) H) ∨ rCatA K x y H Q ∨ rCat x y H Q
theorem op_addU {X : Cx} : OpR X (binaryOp .Add) (rAddU X.K) := OpR.or op_add (OpR.or op_add_str (OpR.or op_catA op_cat))
theorem o2_addI {i j : Int} : Op2 c (rAddU c.K) (.int i) (.int j) (· = .int (i + j)) := fun x y Hd H s ra rb Q q => .inl (o2_I x y Hd H s ra rb Q q)
theorem o2_addS {i j : Str} (h : i.length + j.length ≤ 1000000) : Op2 c (rAddU c.K) (.str i) (.str j) (· = .str (i ++ j)) := o2_c fun x y Hd H s ra rb => by
  cases ra; cases rb
  exact ⟨_, fun Q q => .inr (.inl ⟨i, j, rfl, rfl, by rw [sizeLine_eq]; omega, q⟩), .str _⟩
theorem o2_addT {ds es : List D} (h : ds.length + es.length ≤ 1000000) : Op2 c (rAddU c.K) (.tup ds) (.tup es) (· = .tup (ds ++ es)) := fun x y Hd H s ra rb Q q => by
  cases ra with | tup h1 r1 => cases rb with | tup h2 r2 =>
  rename_i a xs b ys
  refine .inr (.inr (.inl ⟨a, b, xs, ys, rfl, rfl, same_sqt s h1, same_sqt s h2, by rw [r1.length, r2.length, sizeLine_eq]; omega, fun e => ?_, fun _ e => ?_, fun _ _ p hp => ?_⟩))
  · subst e; cases r1; exact q _ _ Hd H (.refl s) rfl (.tup h2 r2)
  · subst e; cases r2; rw [List.append_nil] at q; exact q _ _ Hd H (.refl s) rfl (.tup h1 r1)
  · have g := Grow.new (p := none) (o := HO.tup (xs ++ ys)) s hp
    exact q _ _ _ _ g rfl (.tup (SqT.of upd_same) ((r1.append r2).mono g.d))
theorem o2_addL {ds es : List D} (h : ds.length + es.length ≤ 1000000) : Op2 c (rAddU c.K) (.lst ds) (.lst es) (· = .lst (ds ++ es)) := fun x y Hd H s ra rb Q q => by
  cases ra with | lst h1 r1 => cases rb with | lst h2 r2 =>
  rename_i a xs b ys
  refine .inr (.inr (.inr ⟨a, b, xs, ys, rfl, rfl, s _ _ h1, s _ _ h2, by rw [r1.length, r2.length, sizeLine_eq]; omega, fun p hp => ?_⟩))
  have g := Grow.new (p := none) (o := HO.lst (xs ++ ys)) s hp
  exact q _ _ _ _ g rfl (.lst upd_same ((r1.append r2).mono g.d))
/-! == and != -/
theorem o2_eq {a b : D} (ha : a.ok = true) (hb : b.ok = true) : Op2 c (rEqD c.K) a b (· = .bl (a.eqv b)) := o2_c fun x y Hd H s ra rb =>
  ⟨_, fun Q q => ⟨a.py, b.py, (ra.mono s).dp (D.ok_plain ha), (rb.mono s).dp (D.ok_plain hb), D.ok_shaped ha, D.ok_shaped hb, q⟩, .bl _⟩
theorem o2_ne {a b : D} (ha : a.ok = true) (hb : b.ok = true) : Op2 c (rNeD c.K) a b (· = .bl (!a.eqv b)) := o2_c fun x y Hd H s ra rb =>
  ⟨_, fun Q q => ⟨a.py, b.py, (ra.mono s).dp (D.ok_plain ha), (rb.mono s).dp (D.ok_plain hb), D.ok_shaped ha, D.ok_shaped hb, q⟩, .bl _⟩
/-! is -/
theorem op_isBlA {X : Cx} : OpR X (compareOp .Is) (fun x y H Q => ∃ b, y = .bl b ∧ Q (.bl (decide (x = .bl b))) H) := by
  intro pins s σ H x y v u Q I rx ry h
  obtain ⟨b, rfl, q⟩ := h
  cases ry
  have hp : plainIs v (.bool b) = true := by cases v <;> first | rfl | (exfalso; cases x <;> simp [L2.RelV] at rx)
  refine PySem.wpAny_is_plain hp (fin_bl I q ?_)
  cases x <;> first
    | (cases rx; first | rfl | (rename_i k; cases k <;> cases b <;> rfl))
    | (obtain ⟨t, rfl⟩ := rx; rfl)
def rIsU : R2 := fun x y H Q => (y = .non ∧ Q (.bl (decide (x = .non))) H) ∨ (∃ b, y = .bl b ∧ Q (.bl (decide (x = .bl b))) H)
theorem op_isU {X : Cx} : OpR X (compareOp .Is) rIsU := OpR.or op_isN op_isBlA
def D.isNon : D → Bool
  | .non => true | _ => false
def D.isBl (b : Bool) : D → Bool
  | .bl k => k == b | _ => false
theorem o2_isN {a : D} : Op2 c rIsU a .non (· = .bl a.isNon) := o2_c fun x y Hd H s ra rb => by
  cases rb
  refine ⟨_, fun Q q => .inl ⟨rfl, q⟩, ?_⟩
  cases ra <;> exact .bl _
theorem o2_isB {a : D} {b : Bool} : Op2 c rIsU a (.bl b) (· = .bl (a.isBl b)) := o2_c fun x y Hd H s ra rb => by
  cases rb
  refine ⟨_, fun Q q => .inr ⟨b, rfl, q⟩, ?_⟩
  cases ra with
  | bl k =>
    have e : decide (V.bl k = V.bl b) = (D.bl k).isBl b := by cases k <;> cases b <;> rfl
    rw [e]; exact .bl _
  | _ => exact .bl _
theorem op_notU {X : Cx} : OpR X (compareOp .IsNot) (fun x y H Q => y = .non ∧ Q (.bl (!decide (x = .non))) H) := op_notN
theorem o2_notN {a : D} : Op2 c (fun x y H Q => y = .non ∧ Q (.bl (!decide (x = .non))) H) a .non (· = .bl (!a.isNon)) := o2_c fun x y Hd H s ra rb => by
  cases rb
  refine ⟨_, fun Q q => ⟨rfl, q⟩, ?_⟩
  cases ra <;> exact .bl _
/-! in -/
def rInU (K : PySem.W.Frag) : R2 := fun x y H Q => rIn K false x y H Q ∨ (∃ (k : Nat) (z : Str), x = .str ⟨#[k]⟩ ∧ y = .str z ∧ Q (.bl (decide (k ∈ z.cps.toList))) H)
def rNinU (K : PySem.W.Frag) : R2 := fun x y H Q => rIn K true x y H Q ∨ (∃ (k : Nat) (z : Str), x = .str ⟨#[k]⟩ ∧ y = .str z ∧ Q (.bl (!decide (k ∈ z.cps.toList))) H)
theorem op_inU {X : Cx} : OpR X (compareOp .In) (rInU X.K) := OpR.or op_in_seq op_in_sign
theorem op_ninU {X : Cx} : OpR X (compareOp .NotIn) (rNinU X.K) := OpR.or op_notIn_seq op_notIn_sign
def inD (x : D) (ds : List D) : Bool := inV x.v (ds.map D.v)
theorem o2_inT {x : D} {ds : List D} (hx : x.flat = true) (hd : ds.all D.flat = true) : Op2 c (rInU c.K) x (.tup ds) (· = .bl (inD x ds)) := o2_c fun a b Hd H s ra rb => by
  cases rb with | tup h r =>
  have e := r.flat hd; subst e
  have e := ra.flat hx; subst e
  exact ⟨_, fun Q q => .inl ⟨_, _, rfl, .inr (same_sqt s h), flat_v hx, flat_vs hd, q⟩, .bl _⟩
theorem o2_inL {x : D} {ds : List D} (hx : x.flat = true) (hd : ds.all D.flat = true) : Op2 c (rInU c.K) x (.lst ds) (· = .bl (inD x ds)) := o2_c fun a b Hd H s ra rb => by
  cases rb with | lst h r =>
  have e := r.flat hd; subst e
  have e := ra.flat hx; subst e
  exact ⟨_, fun Q q => .inl ⟨_, _, rfl, .inl (SqL.of (s _ _ h)), flat_v hx, flat_vs hd, q⟩, .bl _⟩
theorem o2_inS {k : Nat} {z : Str} : Op2 c (rInU c.K) (.str ⟨#[k]⟩) (.str z) (· = .bl (decide (k ∈ z.cps.toList))) := o2_c fun a b Hd H s ra rb => by
  cases ra; cases rb
  exact ⟨_, fun Q q => .inr ⟨k, z, rfl, rfl, q⟩, .bl _⟩
theorem o2_ninT {x : D} {ds : List D} (hx : x.flat = true) (hd : ds.all D.flat = true) : Op2 c (rNinU c.K) x (.tup ds) (· = .bl (!inD x ds)) := o2_c fun a b Hd H s ra rb => by
  cases rb with | tup h r =>
  have e := r.flat hd; subst e
  have e := ra.flat hx; subst e
  exact ⟨_, fun Q q => .inl ⟨_, _, rfl, .inr (same_sqt s h), flat_v hx, flat_vs hd, q⟩, .bl _⟩
theorem o2_ninL {x : D} {ds : List D} (hx : x.flat = true) (hd : ds.all D.flat = true) : Op2 c (rNinU c.K) x (.lst ds) (· = .bl (!inD x ds)) := o2_c fun a b Hd H s ra rb => by
  cases rb with | lst h r =>
  have e := r.flat hd; subst e
  have e := ra.flat hx; subst e
  exact ⟨_, fun Q q => .inl ⟨_, _, rfl, .inl (SqL.of (s _ _ h)), flat_v hx, flat_vs hd, q⟩, .bl _⟩
theorem o2_ninS {k : Nat} {z : Str} : Op2 c (rNinU c.K) (.str ⟨#[k]⟩) (.str z) (· = .bl (!decide (k ∈ z.cps.toList))) := o2_c fun a b Hd H s ra rb => by
  cases ra; cases rb
  exact ⟨_, fun Q q => .inr ⟨k, z, rfl, rfl, q⟩, .bl _⟩
/-! items -/
theorem Reps.atI {K : PySem.W.Frag} {H : Hp} {xs : List V} {ds : List D} {i : Int} {d : D} (r : Reps K H xs ds) (h : L2.atI ds i = some d) : ∃ v, L2.atI xs i = some v ∧ Rep K H v d := by
  unfold L2.atI at h ⊢
  rw [r.length]
  cases z : ixN ds.length i with
  | none => rw [z] at h; cases h
  | some k => rw [z] at h; exact r.get (show ds[k]? = some d from h)
theorem o2_ixL {ds : List D} {i : Int} {d : D} (h : atI ds i = some d) : Op2 c (rIx c.K) (.lst ds) (.int i) (· = d) := o2_c fun a b Hd H s ra rb => by
  cases rb
  cases ra with | lst h1 r =>
  obtain ⟨v, e, r'⟩ := r.atI h
  exact ⟨v, fun Q q => .inl ⟨_, _, i, v, rfl, rfl, SqL.of (s _ _ h1), e, q⟩, r'⟩
theorem o2_ixT {ds : List D} {i : Int} {d : D} (h : atI ds i = some d) : Op2 c (rIx c.K) (.tup ds) (.int i) (· = d) := o2_c fun a b Hd H s ra rb => by
  cases rb
  cases ra with | tup h1 r =>
  obtain ⟨v, e, r'⟩ := r.atI h
  exact ⟨v, fun Q q => .inr (.inl ⟨_, _, i, v, rfl, rfl, same_sqt s h1, e, q⟩), r'⟩
theorem o2_ixS {z : Str} {i : Int} {k : Nat} (h : atI z.cps.toList i = some k) (hz : z.length ≤ 1000000) : Op2 c (rIx c.K) (.str z) (.int i) (· = .str ⟨#[k]⟩) := o2_c fun a b Hd H s ra rb => by
  cases rb; cases ra
  exact ⟨_, fun Q q => .inr (.inr ⟨z, i, k, rfl, rfl, by rw [sizeLine_eq]; omega, h, q⟩), .str _⟩
/-! slices -/
def rSlU (K : PySem.W.Frag) : V → Option Int → Option Int → Hp → VK → Prop := fun x lo hi H Q => rSlA K x lo hi H Q ∨ rSlL K x lo hi H Q ∨ rSlS x lo hi H Q
theorem sl_U {X : Cx} : SlR X (rSlU X.K) := SlR.or sl_tupA (SlR.or sl_list sl_str)
def cutD (ds : List D) (lo hi : Option Int) : List D := (ds.drop (HT.sIx ds.length 0 lo)).take (HT.sIx ds.length ds.length hi - HT.sIx ds.length 0 lo)
theorem Reps.cut {K : PySem.W.Frag} {H : Hp} {xs : List V} {ds : List D} (lo hi : Option Int) (r : Reps K H xs ds) : Reps K H (cutV xs lo hi) (cutD ds lo hi) := by
  unfold cutV cutD
  rw [r.length]
  exact (r.drop _).take _
def D.cut (lo hi : Option Int) : D → D
  | .tup ds => .tup (cutD ds lo hi)
  | .lst ds => .lst (cutD ds lo hi)
  | .str z => .str (cutS z lo hi)
  | d => d
def D.seq : D → Bool
  | .tup _ => true | .lst _ => true | .str z => decide (z.length ≤ 1000000) | _ => false
theorem ev_sl {te : TE} {tl th : TO} {Γ : List Sk} {m m1 m2 : Nat} {φ ψ : D → Prop} {ω1 ω2 : Option Int → Prop} (h : Ev c te Γ m φ) (hl : EvO c tl Γ m1 ω1) (hh : EvO c th Γ m2 ω2) (hs : ∀ d, φ d → d.seq = true) (hr : ∀ d lo hi, φ d → ω1 lo → ω2 hi → ψ (d.cut lo hi)) :
    Ev c (tSl (rSlU c.K) te tl th) Γ (m + m1 + m2) ψ := fun σ Hd H n s sa pe l x Q q =>
  h σ Hd H n s sa pe (by omega) x _ fun v d Hd1 H1 g1 pe1 f1 r1 => hl σ Hd1 H1 _ (s.grow g1) g1.s pe1 (by omega) (x.grow g1) _ fun lo Hd2 H2 g2 pe2 f2 => hh σ Hd2 H2 _ (s.grow (g1.trans g2)) g2.s pe2 (by omega) (x.grow (g1.trans g2)) _ fun hi Hd3 H3 g3 pe3 f3 => by
    have gg := (g1.trans g2).trans g3
    have e3 : n + m + m1 + m2 = n + (m + m1 + m2) := by omega
    rw [e3] at pe3
    have r3 := r1.mono (g2.trans g3).d
    have fin := hr d lo hi f1 f2 f3
    have hsd := hs d f1
    cases r3 with
    | tup h1 r =>
      rename_i a xs ds
      refine .inl ⟨a, xs, rfl, same_sqt g3.s h1, fun e => ?_, fun ne p hp => ?_⟩
      · have e' : cutD ds lo hi = ds := by
          unfold cutD
          rw [r.length] at e
          rw [e.1, e.2, List.drop_zero, Nat.sub_zero, List.take_length]
        exact q _ _ _ _ gg pe3 (by show ψ (D.tup ds); rw [← e']; exact fin) (.tup h1 r)
      · have g := Grow.new (p := none) (o := HO.tup (cutV xs lo hi)) g3.s hp
        exact q _ _ _ _ (gg.trans g.up) (pe3.grow g) fin (.tup (SqT.of upd_same) ((r.cut lo hi).mono g.d))
    | lst h1 r =>
      rename_i a xs ds
      refine .inr (.inl ⟨a, xs, rfl, SqL.of (g3.s _ _ h1), fun p hp => ?_⟩)
      have g := Grow.new (p := none) (o := HO.lst (cutV xs lo hi)) g3.s hp
      exact q _ _ _ _ (gg.trans g.up) (pe3.grow g) fin (.lst upd_same ((r.cut lo hi).mono g.d))
    | str z =>
      have hz : z.length ≤ 1000000 := of_decide_eq_true hsd
      exact .inr (.inr ⟨z, rfl, by rw [sizeLine_eq]; omega, q _ _ _ _ gg pe3 fin (.str _)⟩)
    | _ => cases hsd
theorem ev_sl_ {te : TE} {tl th : TO} {Γ : List Sk} {m m1 m2 : Nat} {d : D} {lo hi : Option Int} (h : Ev c te Γ m (· = d)) (hl : EvO c tl Γ m1 (· = lo)) (hh : EvO c th Γ m2 (· = hi)) (hs : d.seq = true) : Ev c (tSl (rSlU c.K) te tl th) Γ (m + m1 + m2) (· = d.cut lo hi) :=
  ev_sl h hl hh (fun _ e => by rw [e]; exact hs) fun _ _ _ e1 e2 e3 => by rw [e1, e2, e3]
/-! calls of built-ins -/
theorem ev_cb {r : List V → Hp → VK → Prop} {ta : TA} {Γ : List Sk} {m : Nat} {ψ : List D → Prop} (h : EvA c ta Γ m ψ) (hr : ∀ ds, ψ ds → OpN c r ds φ) : Ev c (tCB r ta) Γ m φ := fun σ Hd H n s sa pe l x Q q =>
  h σ Hd H n s sa pe l x _ fun vs ds Hd1 H1 g1 pe1 f r1 => hr ds f vs Hd1 H1 g1.s r1 Q fun v d Hd2 H2 g2 f2 r2 => q v d Hd2 H2 (g1.trans g2.up) (pe1.grow g2) f2 r2
theorem ev_cb_ {r : List V → Hp → VK → Prop} {ta : TA} {Γ : List Sk} {m : Nat} {ds : List D} (h : EvA c ta Γ m (· = ds)) (hr : OpN c r ds φ) : Ev c (tCB r ta) Γ m φ := ev_cb h fun _ e => by rw [e]; exact hr
theorem on_c {r : List V → Hp → VK → Prop} {as : List D} {d : D} (h : ∀ xs Hd H, Same Hd H → Reps c.K Hd xs as → ∃ v, (∀ Q : VK, Q v H → r xs H Q) ∧ Rep c.K Hd v d) : OpN c r as (· = d) := fun xs Hd H s ra Q q => by
  obtain ⟨v, h1, h2⟩ := h xs Hd H s ra
  exact h1 Q (q v d Hd H (.refl s) rfl h2)
/-- what hands back a new list of data that is there -/
theorem on_new {r : List V → Hp → VK → Prop} {as es : List D} (h : ∀ xs Hd H, Same Hd H → Reps c.K Hd xs as → ∃ vs, (∀ Q : VK, (∀ p, H p = none → Q (.ref p) (upd H p (.lst vs))) → r xs H Q) ∧ Reps c.K Hd vs es) : OpN c r as (· = .lst es) := fun xs Hd H s ra Q q => by
  obtain ⟨vs, h1, h2⟩ := h xs Hd H s ra
  refine h1 Q fun p hp => ?_
  have g := Grow.new (p := none) (o := HO.lst vs) s hp
  exact q _ _ _ _ g rfl (.lst upd_same (h2.mono g.d))
def D.len : D → Option Nat
  | .tup ds => some ds.length | .lst ds => some ds.length | .str z => if z.length ≤ 1000000 then some z.length else none | _ => none
theorem on_len {d : D} {k : Nat} (h : d.len = some k) : OpN c (fun xs H Q => ∃ x n, xs = [x] ∧ LenV c.K x H n ∧ Q (.int n) H) [d] (· = .int k) := on_c fun xs Hd H s ra => by
  cases ra with | cons a r => cases r; cases a with
  | tup h1 r => cases h; exact ⟨_, fun Q q => ⟨_, _, rfl, .inr ⟨_, same_sqt s h1, rfl⟩, q⟩, by rw [r.length]; exact .int _⟩
  | lst h1 r => cases h; exact ⟨_, fun Q q => ⟨_, _, rfl, .inl ⟨_, SqL.of (s _ _ h1), rfl⟩, q⟩, by rw [r.length]; exact .int _⟩
  | str z =>
    by_cases hz : z.length ≤ 1000000
    · rw [show (D.str z).len = some z.length from if_pos hz] at h
      cases h; exact ⟨_, fun Q q => ⟨_, _, rfl, ⟨by rw [sizeLine_eq]; omega, rfl⟩, q⟩, .int _⟩
    · rw [show (D.str z).len = none from if_neg hz] at h; cases h
  | _ => cases h
def isiD (d : D) (T : String) : Option Bool := kitB d.ty T
theorem on_isi {d : D} {T : String} {b : Bool} (hb : d.builtin = true) (h : kitB d.ty T = some b) : ∀ xs Hd H, Same Hd H → (∃ v, Rep c.K Hd v d ∧ xs = [v, .ty T]) → ∀ Q : VK, Q (.bl b) H → rIsi c.K xs H Q := fun xs Hd H s ⟨v, r, e⟩ Q q =>
  ⟨v, .ty T, _, _, b, e, .ty T, rep_ty s hb r, kit_ty h, q⟩
/-- isinstance(e, T) -/
theorem ev_isi {te : TE} {Γ : List Sk} {m : Nat} {T : String} {d : D} {b : Bool} (h : Ev c te Γ m (· = d)) (hb : d.builtin = true) (hk : kitB d.ty T = some b) : Ev c (tCB (rIsi c.K) (tCons te (tCons (tC (.ty T)) tNil))) Γ m (· = .bl b) := fun σ Hd H n s sa pe l x Q q =>
  h σ Hd H n s sa pe l x _ fun v d' Hd1 H1 g1 pe1 e r1 => by
    subst e
    exact on_isi (c := c) hb hk _ Hd1 H1 g1.s ⟨v, r1, rfl⟩ Q (q _ _ Hd1 H1 g1 pe1 rfl (.bl b))
def kitL (t : String) : List String → Option Bool
  | [] => some false
  | T :: Ts => (kitB t T).bind fun b => if b = true then some true else kitL t Ts
theorem kitL_any {K : PySem.W.Frag} {t : String} : ∀ {Ts : List String} {b : Bool}, kitL t Ts = some b → PySem.W.kitAny K (.type t) (Ts.map Value.type) = some b
  | [], b, h => by cases h; exact kitAny_nil
  | T :: Ts, b, h => by
    unfold kitL at h
    cases z : kitB t T with
    | none => rw [z] at h; cases h
    | some k =>
      rw [z] at h
      cases k with
      | true =>
        cases h
        exact kitAny_cons (b := true) (kit_ty z) (fun e => by cases e) fun _ => rfl
      | false => exact kitAny_cons (b := false) (kit_ty z) (fun _ => kitL_any (show kitL t Ts = some b from h)) fun e => by cases e
theorem cls_all : ∀ (Ts : List String), Paired ClsV (Ts.map V.ty) (Ts.map Value.type)
  | [] => .nil
  | T :: Ts => .cons (.ty T) (cls_all Ts)
def tTys : List String → TA
  | [] => tNil
  | T :: Ts => tCons (tC (.ty T)) (tTys Ts)
theorem tTys_run : ∀ (Ts : List String) (σ : L2.St) (H : Hp) (Q : List V → Hp → Prop), Q (Ts.map V.ty) H → tTys Ts σ H Q
  | [], _, _, _, q => q
  | T :: Ts, σ, H, Q, q => tTys_run Ts σ H _ q
/-- isinstance(e, (T, ..)) -/
theorem ev_isiT {te : TE} {Γ : List Sk} {m : Nat} (Ts : List String) {d : D} {b : Bool} (h : Ev c te Γ m (· = d)) (hb : d.builtin = true) (hk : kitL d.ty Ts = some b) (hl : Ts.length ≤ 1000 := by decide) : Ev c (tCB (rIsiT c.K) (tCons te (tCons (tTup (tTys Ts)) tNil))) Γ m (· = .bl b) := fun σ Hd H n s sa pe l x Q q =>
  h σ Hd H n s sa pe l x _ fun v d' Hd1 H1 g1 pe1 e r1 => by
    subst e
    refine tTys_run Ts σ H1 _ ⟨Nat.le_of_lt (small1000 (by rw [List.length_map]; exact hl)), fun p hp => ?_⟩
    have g := Grow.new (p := none) (o := HO.tup (Ts.map V.ty)) g1.s hp
    exact ⟨v, p, _, _, _, b, rfl, upd_same, cls_all Ts, rep_ty (g.d.trans g.s) hb (r1), kitL_any hk, q _ _ _ _ (g1.trans g.up) (pe1.grow g) rfl (.bl b)⟩
/-- list(..), tuple(..) of a list or a tuple -/
def D.its : D → Option (List D)
  | .tup ds => some ds | .lst ds => some ds | _ => none
theorem on_list {d : D} {ds : List D} (h : d.its = some ds) : OpN c (fun xs H Q => ∃ p ys, xs = [.ref p] ∧ (SqL c.K H p ys ∨ SqT c.K H p ys) ∧ ∀ l, H l = none → Q (.ref l) (upd H l (.lst ys))) [d] (· = .lst ds) := on_new fun xs Hd H s ra => by
  cases ra with | cons a r => cases r; cases a with
  | tup h1 r => cases h; exact ⟨_, fun Q q => ⟨_, _, rfl, .inr (same_sqt s h1), q⟩, r⟩
  | lst h1 r => cases h; exact ⟨_, fun Q q => ⟨_, _, rfl, .inl (SqL.of (s _ _ h1)), q⟩, r⟩
  | _ => cases h
theorem on_tuple {d : D} {ds : List D} (h : d.its = some ds) : OpN c (fun xs H Q => ∃ a ys, xs = [.ref a] ∧ ((SqL c.K H a ys ∧ ∀ l, H l = none → Q (.ref l) (upd H l (.tup ys))) ∨ (SqT c.K H a ys ∧ Q (.ref a) H))) [d] (· = .tup ds) := fun xs Hd H s ra Q q => by
  cases ra with | cons a r => cases r; cases a with
  | tup h1 r => cases h; exact ⟨_, _, rfl, .inr ⟨same_sqt s h1, q _ _ _ _ (.refl s) rfl (.tup h1 r)⟩⟩
  | lst h1 r =>
    cases h
    rename_i a ys
    refine ⟨_, _, rfl, .inl ⟨SqL.of (s _ _ h1), fun p hp => ?_⟩⟩
    have g := Grow.new (p := none) (o := HO.tup ys) s hp
    exact q _ _ _ _ g rfl (.tup (SqT.of upd_same) (r.mono g.d))
  | _ => cases h
theorem on_all {bs : List Bool} : OpN c (rAll c.K) [.lst (bs.map D.bl)] (· = .bl (bs.all id)) := on_c fun xs Hd H s ra => by
  cases ra with | cons a r => cases r; cases a with | lst h1 r =>
    have e := r.of_bls; subst e
    exact ⟨_, fun Q q => ⟨_, bs, rfl, SqL.of (s _ _ h1), q⟩, .bl _⟩
theorem on_any {bs : List Bool} : OpN c (rAny c.K) [.lst (bs.map D.bl)] (· = .bl (bs.any id)) := on_c fun xs Hd H s ra => by
  cases ra with | cons a r => cases r; cases a with | lst h1 r =>
    have e := r.of_bls; subst e
    exact ⟨_, fun Q q => ⟨_, bs, rfl, SqL.of (s _ _ h1), q⟩, .bl _⟩
theorem on_sum {ns : List Int} : OpN c (rSum c.K) [.lst (ns.map D.int)] (· = .int ns.sum) := on_c fun xs Hd H s ra => by
  cases ra with | cons a r => cases r; cases a with | lst h1 r =>
    have e := r.of_ints; subst e
    exact ⟨_, fun Q q => ⟨_, ns, rfl, SqL.of (s _ _ h1), q⟩, .int _⟩
theorem on_min2 {i j : Int} : OpN c (fun xs H Q => ∃ i j, xs = [.int i, .int j] ∧ Q (.int (if j < i then j else i)) H) [.int i, .int j] (· = .int (if j < i then j else i)) := on_c fun xs Hd H s ra => by
  cases ra with | cons a r => cases r with | cons b r => cases r; cases a; cases b; exact ⟨_, fun Q q => ⟨i, j, rfl, q⟩, .int _⟩
theorem on_max2 {i j : Int} : OpN c (fun xs H Q => ∃ i j, xs = [.int i, .int j] ∧ Q (.int (if j > i then j else i)) H) [.int i, .int j] (· = .int (if j > i then j else i)) := on_c fun xs Hd H s ra => by
  cases ra with | cons a r => cases r with | cons b r => cases r; cases a; cases b; exact ⟨_, fun Q q => ⟨i, j, rfl, q⟩, .int _⟩
theorem on_int {i : Int} : OpN c (fun xs H Q => (∃ i, xs = [.int i] ∧ Q (.int i) H) ∨ ∃ k, xs = [.bl k] ∧ Q (.int (if k then 1 else 0)) H) [.int i] (· = .int i) := on_c fun xs Hd H s ra => by
  cases ra with | cons a r => cases r; cases a; exact ⟨_, fun Q q => .inl ⟨i, rfl, q⟩, .int _⟩
theorem on_strI {i : Int} (h : i.natAbs.log2 < 1920) : OpN c (fun xs H Q => ∃ i, xs = [.int i] ∧ i.natAbs.log2 < 1920 ∧ Q (.str (toString i)) H) [.int i] (· = .str (toString i)) := on_c fun xs Hd H s ra => by
  cases ra with | cons a r => cases r; cases a; exact ⟨_, fun Q q => ⟨i, rfl, h, q⟩, .str _⟩
theorem on_sortedS {ss : List Str} (h : ss.length < 64) : OpN c (rSortedS c.K) [.lst (ss.map D.str)] (fun d => ∃ ys : List Str, ys.Perm ss ∧ sortedS ys = true ∧ d = .lst (ys.map D.str)) := fun xs Hd H s ra Q q => by
  cases ra with | cons a r => cases r; cases a with | lst h1 r =>
    have e := r.of_strs; subst e
    refine ⟨_, ss, rfl, SqL.of (s _ _ h1), h, fun ys p pr so hp => ?_⟩
    have g := Grow.new (p := none) (o := HO.lst (ys.map V.str)) s hp
    exact q _ _ _ _ g ⟨ys, pr, so, rfl⟩ (.lst upd_same (reps_strs ys))
end
end DL
set_option maxRecDepth 100000
set_option maxHeartbeats 4000000
/-! DL8: repr, *, split, dicts read, sizes of data. -/
namespace DL
open PySem L2 PyProof.Rows

/-! ### repr -/
theorem call_reprD {X : Cx} (ng : NoG X.A) (hu : X.A.units + 66 < cLine) : CallR X (.builtin "repr") (fun xs H Q => ∃ v d, xs = [v] ∧ Dp X.K H v d ∧ d.canLay0 = true ∧ d.showable = true ∧ d.depth ≤ 64 ∧ d.shown.length ≤ sizeLine ∧ Q (.str d.shown) H) := by
  intro pins s σ H xs us Q I r h
  obtain ⟨v, d, rfl, hd, lay, sho, dep, len, q⟩ := h
  obtain ⟨u, rfl, ru⟩ := vals1 r
  obtain ⟨as, rd⟩ := Dp.reads I d v u hd ru
  have done : ∀ {t : Nat} {tk : Tok}, EP X pins σ Q (.str d.shown tk) { s with toks := t } := fun {t tk} => ⟨.str d.shown, H, I.tok t, ⟨tk, rfl⟩, q⟩
  cases rd with
  | none => exact PySem.P.repr_of_none done
  | bool b => exact PySem.P.repr_of_bool done
  | int i t => exact PySem.P.repr_of_int (of_decide_eq_true sho) done
  | str x t => exact PySem.P.repr_of_str done len
  | list h1 h2 h3 h4 =>
    refine repr_of_reads' (.list h1 h2 h3 h4) sho (fun z => ?_) ng (by omega) (fun _ _ z => z) (fun h' u' tk kp => ⟨.str _, H, I.kept (t' := tk) kp, ⟨u', rfl⟩, q⟩) len
    rw [PyData.hasDict_of_canLay _ lay] at z; cases z
  | tuple h1 h2 h3 h4 =>
    refine repr_of_reads' (.tuple h1 h2 h3 h4) sho (fun z => ?_) ng (by omega) (fun _ _ z => z) (fun h' u' tk kp => ⟨.str _, H, I.kept (t' := tk) kp, ⟨u', rfl⟩, q⟩) len
    rw [PyData.hasDict_of_canLay _ lay] at z; cases z
  | dict _ _ _ _ _ => cases lay

/-! ### sizes -/
mutual
/-- room for the text -/
def D.w : D → Nat
  | .non => 5 | .bl _ => 5 | .int _ => 1930 | .str s => 10 * s.length + 2
  | .lst ds => D.ws ds + 3 | .tup ds => D.ws ds + 3
  | .dct _ _ => 5 | .obj _ _ _ => 5 | .exc _ _ _ _ => 5 | .ptr _ => 5 | .err _ _ _ => 5
def D.ws : List D → Nat
  | [] => 0
  | d :: ds => D.w d + 2 + D.ws ds
end
mutual
theorem shown_w : ∀ d : D, d.py.canLay0 = true → d.py.showable = true → d.py.shown.length ≤ d.w
  | .non, _, _ => by decide
  | .bl b, _, _ => by cases b <;> decide
  | .int i, _, h => by
    have := int_text_length_le (k := 1920) (by decide) (of_decide_eq_true (show decide (i.natAbs.log2 < 1920) = true from h))
    show (Str.ofString (toString i)).length ≤ 1930
    rw [PySem.ofString_length]; omega
  | .str s, h, _ => by
    have h0 : s.cps.all (· < 0x110000) = true := h
    have := StrLaws.reprText_len s fun c hc => by
      have := (Array.all_eq_true_iff_forall_mem.mp h0) c (Array.mem_toList_iff.mp hc)
      have := of_decide_eq_true this
      have e : (16 : Nat) ^ 8 = 4294967296 := by decide
      omega
    show (reprText s).length ≤ 10 * s.length + 2
    omega
  | .lst ds, h, h2 => by
    have := shown_ws ds h h2
    have := listText_len_le (PyData.shownAll (D.pys ds))
    show (listText (PyData.shownAll (D.pys ds))).length ≤ D.ws ds + 3
    omega
  | .tup ds, h, h2 => by
    have := shown_ws ds h h2
    have := tupleText_len_le (PyData.shownAll (D.pys ds))
    show (tupleText (PyData.shownAll (D.pys ds))).length ≤ D.ws ds + 3
    omega
  | .dct _ _, _, _ => (show (PyData.shown PyData.none).length ≤ 5 by decide)
  | .obj _ _ _, _, _ => (show (PyData.shown PyData.none).length ≤ 5 by decide)
  | .exc _ _ _ _, _, _ => (show (PyData.shown PyData.none).length ≤ 5 by decide)
  | .ptr _, _, _ => (show (PyData.shown PyData.none).length ≤ 5 by decide)
  | .err _ _ _, _, _ => (show (PyData.shown PyData.none).length ≤ 5 by decide)
theorem shown_ws : ∀ ds : List D, PyData.canLayAll0 (D.pys ds) = true → PyData.showableAll (D.pys ds) = true → ((PyData.shownAll (D.pys ds)).map (·.length)).sum + 2 * (PyData.shownAll (D.pys ds)).length ≤ D.ws ds
  | [], _, _ => by decide
  | d :: ds, h, h2 => by
    have h' := Bool.and_eq_true_iff.mp (show (d.py.canLay0 && PyData.canLayAll0 (D.pys ds)) = true from h)
    have h2' := Bool.and_eq_true_iff.mp (show (d.py.showable && PyData.showableAll (D.pys ds)) = true from h2)
    have a := shown_w d h'.1 h2'.1
    have b := shown_ws ds h'.2 h2'.2
    show ((d.py.shown :: PyData.shownAll (D.pys ds)).map (·.length)).sum + 2 * (d.py.shown :: PyData.shownAll (D.pys ds)).length ≤ D.w d + 2 + D.ws ds
    rw [List.map_cons, List.sum_cons, List.length_cons]
    omega
end

/-- good data: plain, small (n), not deep (k) -/
structure GD (k n : Nat) (d : D) : Prop where
  pl : d.plain = true
  lay : d.py.canLay0 = true
  sh : d.py.showable = true
  dep : d.py.depth ≤ k
  w : d.w ≤ n
structure GDs (k n : Nat) (ds : List D) : Prop where
  pl : D.plains ds = true
  lay : PyData.canLayAll0 (D.pys ds) = true
  sh : PyData.showableAll (D.pys ds) = true
  dep : PyData.depthAll (D.pys ds) ≤ k
  w : D.ws ds ≤ n
section
variable {k n k' n' : Nat} {d : D} {ds : List D}
theorem GD.mono (h : GD k n d) (a : k ≤ k') (b : n ≤ n') : GD k' n' d := ⟨h.pl, h.lay, h.sh, Nat.le_trans h.dep a, Nat.le_trans h.w b⟩
theorem GDs.mono (h : GDs k n ds) (a : k ≤ k') (b : n ≤ n') : GDs k' n' ds := ⟨h.pl, h.lay, h.sh, Nat.le_trans h.dep a, Nat.le_trans h.w b⟩
theorem GDs.nil : GDs k n [] := ⟨rfl, rfl, rfl, Nat.zero_le _, Nat.zero_le _⟩
theorem GDs.cons (h : GD k n d) (r : GDs k n' ds) : GDs k (n + 2 + n') (d :: ds) :=
  ⟨by show (d.plain && D.plains ds) = true; rw [h.pl, r.pl]; rfl, by show (d.py.canLay0 && PyData.canLayAll0 (D.pys ds)) = true; rw [h.lay, r.lay]; rfl, by show (d.py.showable && PyData.showableAll (D.pys ds)) = true; rw [h.sh, r.sh]; rfl,
    by show max d.py.depth (PyData.depthAll (D.pys ds)) ≤ k; exact Nat.max_le.mpr ⟨h.dep, r.dep⟩, by have := h.w; have := r.w; show D.w d + 2 + D.ws ds ≤ n + 2 + n'; omega⟩
theorem GDs.all : ∀ {ds : List D}, (∀ d ∈ ds, GD k n d) → GDs k (ds.length * (n + 2)) ds
  | [], _ => GDs.nil
  | d :: ds, h => by
    have := GDs.cons (h d List.mem_cons_self) (GDs.all fun e he => h e (List.mem_cons_of_mem _ he))
    exact this.mono (Nat.le_refl _) (by rw [List.length_cons, Nat.succ_mul]; omega)
theorem GDs.tup (h : GDs k n ds) : GD (k + 1) (n + 3) (.tup ds) := ⟨h.pl, h.lay, h.sh, Nat.succ_le_succ h.dep, by have := h.w; show D.ws ds + 3 ≤ n + 3; omega⟩
theorem GDs.lst (h : GDs k n ds) : GD (k + 1) (n + 3) (.lst ds) := ⟨h.pl, h.lay, h.sh, Nat.succ_le_succ h.dep, by have := h.w; show D.ws ds + 3 ≤ n + 3; omega⟩
theorem GD.tups (h : GD k n (.tup ds)) : GDs (k - 1) n ds := ⟨h.pl, h.lay, h.sh, by have := h.dep; have e : (D.tup ds).py.depth = PyData.depthAll (D.pys ds) + 1 := rfl; omega, by have := h.w; have e : (D.tup ds).w = D.ws ds + 3 := rfl; omega⟩
theorem GD.lsts (h : GD k n (.lst ds)) : GDs (k - 1) n ds := ⟨h.pl, h.lay, h.sh, by have := h.dep; have e : (D.lst ds).py.depth = PyData.depthAll (D.pys ds) + 1 := rfl; omega, by have := h.w; have e : (D.lst ds).w = D.ws ds + 3 := rfl; omega⟩
theorem GDs.head (h : GDs k n (d :: ds)) : GD k n d := by
  have h1 := Bool.and_eq_true_iff.mp (show (d.plain && D.plains ds) = true from h.pl)
  have h2 := Bool.and_eq_true_iff.mp (show (d.py.canLay0 && PyData.canLayAll0 (D.pys ds)) = true from h.lay)
  have h3 := Bool.and_eq_true_iff.mp (show (d.py.showable && PyData.showableAll (D.pys ds)) = true from h.sh)
  have h4 := Nat.max_le.mp (show max d.py.depth (PyData.depthAll (D.pys ds)) ≤ k from h.dep)
  have h5 : D.w d + 2 + D.ws ds ≤ n := h.w
  exact ⟨h1.1, h2.1, h3.1, h4.1, by omega⟩
theorem GDs.tail (h : GDs k n (d :: ds)) : GDs k n ds := by
  have h1 := Bool.and_eq_true_iff.mp (show (d.plain && D.plains ds) = true from h.pl)
  have h2 := Bool.and_eq_true_iff.mp (show (d.py.canLay0 && PyData.canLayAll0 (D.pys ds)) = true from h.lay)
  have h3 := Bool.and_eq_true_iff.mp (show (d.py.showable && PyData.showableAll (D.pys ds)) = true from h.sh)
  have h4 := Nat.max_le.mp (show max d.py.depth (PyData.depthAll (D.pys ds)) ≤ k from h.dep)
  have h5 : D.w d + 2 + D.ws ds ≤ n := h.w
  exact ⟨h1.2, h2.2, h3.2, h4.2, by omega⟩
theorem GDs.mem : ∀ {ds : List D}, GDs k n ds → ∀ d ∈ ds, GD k n d
  | [], _, d, h => by simp at h
  | e :: ds, g, d, h => by
    rcases List.mem_cons.mp h with rfl | h
    · exact g.head
    · exact g.tail.mem d h
theorem GDs.app : ∀ {ds es : List D} {n n' : Nat}, GDs k n ds → GDs k n' es → GDs k (n + n') (ds ++ es)
  | [], _, _, _, _, h => h.mono (Nat.le_refl _) (by omega)
  | d :: ds, es, n, n', g, h => by
    have w1 : D.w d + 2 + D.ws ds ≤ n := g.w
    have q := GDs.cons (n := D.w d) (d := d) ⟨g.head.pl, g.head.lay, g.head.sh, g.head.dep, Nat.le_refl _⟩ ((GDs.app (n := D.ws ds) ⟨g.tail.pl, g.tail.lay, g.tail.sh, g.tail.dep, Nat.le_refl _⟩ h))
    exact q.mono (Nat.le_refl _) (by omega)
theorem GDs.take (i : Nat) : ∀ {ds : List D} {n : Nat}, GDs k n ds → GDs k n (ds.take i) := by
  induction i with
  | zero => intro ds n _; rw [List.take_zero]; exact GDs.nil
  | succ i ih =>
    intro ds n h
    cases ds with
    | nil => exact GDs.nil
    | cons d ds =>
      rw [List.take_succ_cons]
      have w1 : D.w d + 2 + D.ws ds ≤ n := h.w
      have q := GDs.cons (n := D.w d) (d := d) ⟨h.head.pl, h.head.lay, h.head.sh, h.head.dep, Nat.le_refl _⟩ (ih (n := D.ws ds) ⟨h.tail.pl, h.tail.lay, h.tail.sh, h.tail.dep, Nat.le_refl _⟩)
      exact q.mono (Nat.le_refl _) (by omega)
theorem GDs.drop (i : Nat) : ∀ {ds : List D}, GDs k n ds → GDs k n (ds.drop i) := by
  induction i with
  | zero => intro ds h; exact h
  | succ i ih =>
    intro ds h
    cases ds with
    | nil => exact GDs.nil
    | cons d ds => exact ih h.tail
theorem GDs.cut (lo hi : Option Int) (h : GDs k n ds) : GDs k n (cutD ds lo hi) := (h.drop _).take _
theorem GD.ok (h : GD k n d) (hk : k ≤ 64 := by decide) : d.ok = true := by
  unfold D.ok SeqAt.shaped
  rw [h.pl, h.lay, decide_eq_true (Nat.le_trans h.dep hk)]; rfl
theorem GD.int {i : Int} (hk : i.natAbs.log2 < 1920 := by decide) (b : 1930 ≤ n := by decide) : GD k n (.int i) := ⟨rfl, rfl, decide_eq_true hk, Nat.zero_le _, b⟩
theorem GD.bl {b : Bool} (h : 5 ≤ n := by decide) : GD k n (.bl b) := ⟨rfl, rfl, rfl, Nat.zero_le _, h⟩
theorem GD.non (h : 5 ≤ n := by decide) : GD k n .non := ⟨rfl, rfl, rfl, Nat.zero_le _, h⟩
theorem GD.str {s : Str} (h : PyData.strOk s = true) (b : 10 * s.length + 2 ≤ n) : GD k n (.str s) := ⟨rfl, h, rfl, Nat.zero_le _, b⟩
theorem GD.strOk {s : Str} (h : GD k n (.str s)) : PyData.strOk s = true := h.lay
theorem GD.strLen {s : Str} (h : GD k n (.str s)) : 10 * s.length + 2 ≤ n := h.w
end
section
variable {c : Ct} {φ : D → Prop}
def rReprD (K : PySem.W.Frag) : List V → Hp → VK → Prop := fun xs H Q => ∃ v d, xs = [v] ∧ Dp K H v d ∧ d.canLay0 = true ∧ d.showable = true ∧ d.depth ≤ 64 ∧ d.shown.length ≤ sizeLine ∧ Q (.str d.shown) H
theorem on_repr {d : D} {k n : Nat} (g : GD k n d) (hk : k ≤ 64 := by decide) (hn : n ≤ 16000000 := by decide) : OpN c (rReprD c.K) [d] (· = .str d.py.shown) := on_c fun xs Hd H s ra => by
  cases ra with | cons a r => cases r; exact ⟨_, fun Q q => ⟨_, d.py, rfl, (a.mono s).dp g.pl, g.lay, g.sh, Nat.le_trans g.dep hk, by have := shown_w d g.lay g.sh; have := g.w; rw [sizeLine_eq]; omega, q⟩, .str _⟩
/-! * -/
theorem op_mulS {X : Cx} : OpR X (binaryOp .Mult) (fun x y H Q => ∃ z n, x = .str z ∧ y = .int n ∧ 0 ≤ n ∧ n ≤ 1000 ∧ z.length ≤ 1000 ∧ Q (.str (Txt.mul z n)) H) := by
  intro pins s σ H x y v u Q I rx ry h
  obtain ⟨z, n, rfl, rfl, h0, h1, h2, q⟩ := h
  obtain ⟨t, rfl⟩ := rx
  obtain ⟨t2, rfl⟩ := ry
  refine SB.mul ⟨?_, fun _ _ => ?_, fun _ _ => ?_⟩ fun t' k => ⟨.str _, H, I.tok k, ⟨t', rfl⟩, q⟩
  · rw [decide_eq_false (by omega), decide_eq_false (by omega)]; rfl
  · have hn : 1 ≤ n ∨ n < 1 := by omega
    rcases hn with hn | hn
    · have : (2 ^ 63 - 1) / n ≥ (2 ^ 63 - 1) / 1000 := by
        rw [ge_iff_le, Int.le_ediv_iff_mul_le (by omega)]
        have : ((2:Int) ^ 63 - 1) / 1000 * n ≤ (2 ^ 63 - 1) / 1000 * 1000 := Int.mul_le_mul_of_nonneg_left h1 (by decide)
        have e : ((2:Int) ^ 63 - 1) / 1000 * 1000 ≤ 2 ^ 63 - 1 := by decide
        omega
      have e : ((2:Int) ^ 63 - 1) / 1000 = 9223372036854775 := by decide
      omega
    · omega
  · unfold Builtin.Str.tooLong
    have : z.length * n.toNat ≤ 1000 * 1000 := Nat.mul_le_mul h2 (by omega)
    rw [decide_eq_false]
    rw [sizeLine_eq]; omega
def rMulU (K : PySem.W.Frag) : R2 := fun x y H Q => rI CMul (fun i j => .int (i * j)) x y H Q ∨ (∃ z n, x = .str z ∧ y = .int n ∧ 0 ≤ n ∧ n ≤ 1000 ∧ z.length ≤ 1000 ∧ Q (.str (Txt.mul z n)) H) ∨ rRep x y H Q
theorem op_mulU {X : Cx} : OpR X (binaryOp .Mult) (rMulU X.K) := OpR.or op_mul (OpR.or op_mulS op_rep)
theorem o2_mulI {i j : Int} (h : CMul i j) : Op2 c (rMulU c.K) (.int i) (.int j) (· = .int (i * j)) := fun x y Hd H s ra rb Q q => .inl (o2_IC h x y Hd H s ra rb Q q)
theorem o2_mulS {z : Str} {n : Int} (h : 0 ≤ n ∧ n ≤ 1000 ∧ z.length ≤ 1000) : Op2 c (rMulU c.K) (.str z) (.int n) (· = .str (Txt.mul z n)) := o2_c fun x y Hd H s ra rb => by
  cases ra; cases rb
  exact ⟨_, fun Q q => .inr (.inl ⟨z, n, rfl, rfl, h.1, h.2.1, h.2.2, q⟩), .str _⟩
theorem o2_mulL {ds : List D} {n : Int} (h : 0 ≤ n ∧ n ≤ 1000 ∧ ds.length ≤ 1000) : Op2 c (rMulU c.K) (.lst ds) (.int n) (· = .lst (List.replicate n.toNat ds).flatten) := fun x y Hd H s ra rb Q q => by
  cases rb
  cases ra with | lst h1 r =>
  rename_i a xs
  have e : xs.length * n.toNat ≤ 1000 * 1000 := Nat.mul_le_mul (by rw [r.length]; exact h.2.2) (by omega)
  refine .inr (.inr ⟨a, n, xs, rfl, rfl, s _ _ h1, by omega, by omega, by rw [sizeLine_eq]; omega, fun p hp => ?_⟩)
  have g := Grow.new (p := none) (o := HO.lst (List.replicate n.toNat xs).flatten) s hp
  exact q _ _ _ _ g rfl (.lst upd_same ((r.rep n.toNat).mono g.d))
/-! split -/
def rSplitD : V → List V → Hp → VK → Prop := fun x xs H Q => ∃ a b, x = .str a ∧ xs = [.str b] ∧ (b.length == 0) = false ∧ a.length + 2 ≤ sizeLine ∧ rNewStrs (Txt.split a b) H Q
theorem ev_split {to te : TE} {Γ : List Sk} {m m1 : Nat} {a b : Str} (h : Ev c to Γ m (· = .str a)) (h2 : Ev c te Γ m1 (· = .str b)) (hb : (b.length == 0) = false) (ha : a.length ≤ 1000000) : Ev c (tM1 rSplitD to te) Γ (m + m1) (· = .lst ((Txt.split a b).map .str)) := fun σ Hd H n s sa pe l x Q q =>
  h σ Hd H n s sa pe (by omega) x _ fun v d Hd1 H1 g1 pe1 e r1 => by
    subst e; cases r1
    refine ⟨⟨a, rfl⟩, h2 σ Hd1 H1 _ (s.grow g1) g1.s pe1 (by omega) (x.grow g1) _ fun v d Hd2 H2 g2 pe2 e r2 => ?_⟩
    subst e; cases r2
    refine ⟨a, b, rfl, rfl, hb, by rw [sizeLine_eq]; omega, fun p hp => ?_⟩
    have g := Grow.new (p := none) (o := HO.lst ((Txt.split a b).map V.str)) g2.s hp
    exact q _ _ _ _ ((g1.trans g2).trans g.up) (by rw [← Nat.add_assoc]; exact pe2.grow g) rfl (.lst upd_same (reps_strs _))
/-! dicts read -/
def keyD : Key → D
  | .inl i => .int i | .inr x => .str x
def valD : List Key → List D → Key → Option D
  | k :: ks, d :: ds, j => if k = j then some d else valD ks ds j
  | _, _, _ => none
theorem valV_zip {K : PySem.W.Frag} {H : Hp} {j : Key} : ∀ {ks : List Key} {xs : List V} {ds : List D}, Reps K H xs ds → ∀ {d : D}, valD ks ds j = some d → ∃ v, valV (ks.zip xs) j = some v ∧ Rep K H v d
  | [], _, _, _, d, h => by unfold valD at h; cases h
  | k :: ks, _, _, .nil, d, h => by unfold valD at h; cases h
  | k :: ks, x :: xs, e :: ds, .cons h1 r, d, h => by
    rw [List.zip_cons_cons]
    by_cases z : k = j
    · rw [show valD (k :: ks) (e :: ds) j = some e from if_pos z] at h
      cases h
      exact ⟨x, valV_pos (p := (k, x)) z, h1⟩
    · rw [show valD (k :: ks) (e :: ds) j = valD ks ds j from if_neg z] at h
      obtain ⟨v, q1, q2⟩ := valV_zip r h
      exact ⟨v, by rw [valV_neg (p := (k, x)) z]; exact q1, q2⟩
theorem ev_dget {td ty : TE} {Γ : List Sk} {m m1 : Nat} {ks : List Key} {ds : List D} {j : Key} {d : D} (h : Ev c td Γ m (· = .dct ks ds)) (h2 : Ev c ty Γ m1 (· = keyD j)) (hv : valD ks ds j = some d) : Ev c (tDGet td ty) Γ (m + m1) (· = d) := fun σ Hd H n s sa pe l x Q q =>
  h σ Hd H n s sa pe (by omega) x _ fun v d' Hd1 H1 g1 pe1 e r1 => h2 σ Hd1 H1 _ (s.grow g1) g1.s pe1 (by omega) (x.grow g1) _ fun v2 d2 Hd2 H2 g2 pe2 e2 r2 => by
    subst e; subst e2
    cases r1 with | dct z1 z2 z3 =>
    obtain ⟨w, q1, q2⟩ := valV_zip (z3.mono g2.d) hv
    have ek : v2 = kV j := by cases j <;> (cases r2; rfl)
    subst ek
    exact ⟨_, w, rfl, by rw [← q1]; exact DGet.k (g2.s _ _ (g2.d _ _ z1)), q w _ Hd2 H2 (g1.trans g2) (by rw [← Nat.add_assoc]; exact pe2) rfl q2⟩
/-- a written dict -/
def tPs : List (Str × TE) → List (TE × TE)
  | [] => []
  | (k, t) :: r => (tC (.str k), t) :: tPs r
end
end DL
set_option maxRecDepth 100000
set_option maxHeartbeats 4000000
/-! DL9: defs by name (Cal), unpacking, the pen's own dict. -/
namespace DL
open PySem L2 PyProof.Rows

/-- a def of the text, found by its name, that keeps a promise; ds: its defaults -/
structure Cal (P : Program) (w : World) (K : PySem.W.Frag) (mg : Str → Option Value) (base : Heap) (x : Str) (k : Nat) (ps : List Str) (dvs : List V) (sp : Sp) : Prop where
  ex : ∃ f fd ds, FnG P w K mg base CX0 k f fd ps sp ∧ mg x = some (.ref f) ∧ PySem.W.keepIn K (.ref f) = true ∧ Binds K fd ps ds ∧ Vals dvs ds
/-- the def as it stands -/
structure Def (K : PySem.W.Frag) (mg : Str → Option Value) (x : Str) (st : Stmt) (ps : List Str) (dvs : List V) : Prop where
  ex : ∃ f fd ds, FunV K x x st f fd ∧ mg x = some (.ref f) ∧ Binds K fd ps ds ∧ Vals dvs ds
section
variable {P : Program} {w : World} {K : PySem.W.Frag} {mg : Str → Option Value} {base : Heap} {x : Str} {k : Nat} {ps N : List Str} {dvs : List V} {sp : Sp} {st : Stmt} {pre : List D → Prop} {post : List D → D → Prop} {m : Nat}
theorem Cal.mono {j : Nat} (C : Cal P w K mg base x j ps dvs sp) (h : j ≤ k) : Cal P w K mg base x k ps dvs sp := by
  obtain ⟨f, fd, ds, F, r⟩ := C.ex
  exact ⟨f, fd, ds, F.mono h, r⟩
theorem cal_P (Df : Def K mg x st ps dvs) (S : FnScope N ps (defScope st)) (hl : ∀ ds, pre ds → ds.length = ps.length)
    (hb : ∀ (f : Addr) (cdv : Value) (A : Around) (outer : List Env) (s : Shared) (H : Hp) (E : XK), Room k (A.deeper (envOfC x (defScope st) s.heap.objs.size f cdv)) → NoG (A.deeper (envOfC x (defScope st) s.heap.objs.size f cdv)) → ∀ ds, pre ds →
      ∃ t, PSs (cxOf CX0 P w K mg base N x (defScope st) f cdv A outer s H E).nox (defBody st) t ∧ ∀ p, Wp ⟨K, p, L2.E0, fun _ _ => False⟩ t (G0 N ds) 0 (retW (post ds))) : Cal P w K mg base x (k + 1) ps dvs (SpP K pre post) := by
  obtain ⟨f, fd, ds, F, hm, b, v⟩ := Df.ex
  exact ⟨f, fd, ds, fn_P F S hl (hb f), hm, F.kp, b, v⟩
theorem cal_G (Df : Def K mg x st ps dvs) (S : FnScope N ps (defScope st)) (hl : ∀ ds, pre ds → ds.length + 1 = ps.length)
    (hb : ∀ (f : Addr) (cdv : Value) (A : Around) (outer : List Env) (s : Shared) (H : Hp) (E : XK), Room k (A.deeper (envOfC x (defScope st) s.heap.objs.size f cdv)) → NoG (A.deeper (envOfC x (defScope st) s.heap.objs.size f cdv)) → ∀ ds, pre ds →
      ∃ t, PSs (cxOf CX0 P w K mg base N x (defScope st) f cdv A outer s H E).nox (defBody st) t ∧ ∀ a cc, Wp ⟨K, some (a, cc), L2.E0, fun _ _ => False⟩ t (G1 N ds) m (retW (post ds))) : Cal P w K mg base x (k + 1) ps dvs (SpG K m pre post) := by
  obtain ⟨f, fd, ds, F, hm, b, v⟩ := Df.ex
  exact ⟨f, fd, ds, fn_G F S hl (hb f), hm, F.kp, b, v⟩
theorem cal_raw (Df : Def K mg x st ps dvs) (S : FnScope N ps (defScope st)) (len : ∀ vs H Q E, sp vs H Q E → vs.length = ps.length)
    (hb : ∀ (f : Addr) (cdv : Value) (A : Around) (outer : List Env) (s : Shared) (H : Hp) (vs : List V) (Q : VK) (E : XK), Room k (A.deeper (envOfC x (defScope st) s.heap.objs.size f cdv)) → NoG (A.deeper (envOfC x (defScope st) s.heap.objs.size f cdv)) → sp vs H Q E →
      ∃ t, PSs (cxOf CX0 P w K mg base N x (defScope st) f cdv A outer s H E).nox (defBody st) t ∧ t { nx := fun _ H' => Q .non H', rt := Q } (L2.start N vs) H) : Cal P w K mg base x (k + 1) ps dvs sp := by
  obtain ⟨f, fd, ds, F, hm, b, v⟩ := Df.ex
  refine ⟨f, fd, ds, fng_of F S len fun cdv A outer s H vs Q E r ng h => ?_, hm, F.kp, b, v⟩
  obtain ⟨t, h1, h2⟩ := hb f cdv A outer s H vs Q E r ng h
  exact ⟨t, h1.nox, h2⟩
end
section
variable {X : Cx} {x : Str} {k j : Nat} {ps : List Str} {dvs : List V} {sp : Sp} {e : Expr} {es : List Expr} {t : TA} {p pos : Pos}
theorem peg_cal (C : Cal X.prog X.w X.K X.mg X.base x j ps dvs sp) (hr : Room k X.A) (hj : j ≤ k) (ng : NoG X.A) (hg : Gl X x) (ha : PA X (e :: es) t)
    (h1 : (x == ("__debug__" : Str)) = false := by decide) (h2 : starEach (e :: es) X.env = (false, eval e X.env) :: starEach es X.env := by rfl) (h3 : (backTo pos (starEach es X.env)).any (·.1) = false := by rfl) : PE X (.Call (.Name x p) (e :: es) [] pos) (tCall sp dvs L2.E0 t) := by
  obtain ⟨f, fd, ds, F, hm, kp, b, v⟩ := C.ex
  exact peg_call F (hr.mono hj) ng hg hm kp b v pass0 ha h1 h2 h3
theorem peg_cal0 (C : Cal X.prog X.w X.K X.mg X.base x j ps dvs sp) (hr : Room k X.A) (hj : j ≤ k) (ng : NoG X.A) (hg : Gl X x) (h1 : (x == ("__debug__" : Str)) = false := by decide) : PE X (.Call (.Name x p) [] [] pos) (tCall sp dvs L2.E0 tNil) := by
  obtain ⟨f, fd, ds, F, hm, kp, b, v⟩ := C.ex
  exact peg_call0 F (hr.mono hj) ng hg hm kp b v pass0 h1
/-- a name of the module -/
theorem pe_globE {x : Str} {v : V} {pos : Pos} (hg : Gl X x) (h : ∃ u, X.mg x = some u ∧ RelV v u) (hd : (x == ("__debug__" : Str)) = false := by decide) : PE X (.Name x pos) (tC v) := by
  obtain ⟨u, h1, h2⟩ := h
  exact pe_glob hg h1 h2 hd
end
/-! ### a, b, .. = a list or a tuple -/
def gSeq (K : PySem.W.Frag) (n : Nat) (t : TGs) : TG := fun v σ H Q => gTup K n t v σ H Q ∨ gUnl K n t v σ H Q
theorem pg_seq {X : Cx} {pos : Pos} {es : List Expr} {k : Nat} {t : TGs} {n : Nat} (hc : X.calm = true) (h : PGs X es t) (hn : (assignEach es X.env).length = n := by rfl) (hst : (assignEach es X.env).findIdx? (·.1) = none := by rfl) : PG X (.Tuple es k pos) (gSeq X.K n t) :=
  ⟨fun pins s σ H v u Q I r q => q.elim (fun q => (pg_tup (pos := pos) (k := k) hc h hn hst).run pins s σ H v u Q I r q) fun q => (pg_unl (pos := pos) (k := k) hc h hn hst).run pins s σ H v u Q I r q⟩
section
variable {c : Ct} {Γ : List Sk} {m m1 m2 : Nat} {te : TE} {u : TS} {W : Wh}
theorem tg_seq {gs : TGs} {d : D} {ds : List D} {ps : List (Nat × D)} {n : Nat} (e : d.its = some ds) (h : TgDs c gs ds ps) (hn : ds.length = n := by rfl) : TgD c (gSeq c.K n gs) d ps := fun σ Hd H v Γ s sa r Q q => by
  cases r with
  | tup h1 r => cases e; exact .inl ⟨_, _, rfl, same_sqt sa h1, by rw [r.length, hn], h σ Hd H _ Γ s sa r Q q⟩
  | lst h1 r => cases e; exact .inr ⟨_, _, rfl, SqL.of (sa _ _ h1), by rw [r.length, hn], h σ Hd H _ Γ s sa r Q q⟩
  | _ => cases e
/-- target = e -/
theorem wp_asgT {g : TG} {φ : D → Prop} (h : Ev c te Γ m φ) (k : ∀ d, φ d → ∃ ps, TgD c g d ps ∧ W.N (setD Γ ps)) : Wp c (tAsg te g) Γ m W := fun Hb Hd0 H0 σ Hd H n o l x E k1 k2 k3 k4 =>
  h σ Hd H n o.sr o.g.s o.pe l (x.grow o.g) _ fun v d Hd' H' g' pe f r => by
    obtain ⟨ps, tg, w⟩ := k d f
    have o' := o.grow g' pe
    exact tg σ Hd' H' v Γ o'.sr o'.g.s r _ fun σ' s' _ q => k1 _ _ _ _ w (o'.tg s' q)
theorem wq_asgT {g : TG} {φ : D → Prop} (h : Ev c te Γ m1 φ) (k : ∀ d, φ d → ∃ ps, TgD c g d ps ∧ Wp c u (setD Γ ps) m2 W) : Wp c (tSeq (tAsg te g) u) Γ (m1 + m2) W := wp_seqW (N' := fun G => Wp c u G m2 W) (wp_asgT h k) fun _ w => w
/-- a, b = e, f -/
theorem wq_par {i j : Nat} {ta : TA} {ψ : List D → Prop} (h : EvA c ta Γ m1 ψ) (k : ∀ ds, ψ ds → ∃ a b, ds = [a, b] ∧ Wp c u ((Γ.set i (.dat a)).set j (.dat b)) m2 W) : Wp c (tSeq (tPar i j ta) u) Γ (m1 + m2) W :=
  wp_seqW (N' := fun G => Wp c u G m2 W) (fun Hb Hd0 H0 σ Hd H n o l x E k1 k2 k3 k4 => h σ Hd H n o.sr o.g.s o.pe l (x.grow o.g) _ fun vs ds Hd' H' g pe f r => by
    obtain ⟨a, b, e, w⟩ := k ds f
    subst e
    cases r with | cons ra r => cases r with | cons rb r => cases r; exact ⟨_, _, rfl, k1 _ _ _ _ w (((o.grow g pe).set ra).set rb)⟩) fun _ w => w
theorem wq_par_ {i j : Nat} {ta : TA} {a b : D} (h : EvA c ta Γ m1 (· = [a, b])) (k : Wp c u ((Γ.set i (.dat a)).set j (.dat b)) m2 W) : Wp c (tSeq (tPar i j ta) u) Γ (m1 + m2) W := wq_par h fun _ e => ⟨a, b, e, k⟩
/-- calls with defaults -/
theorem ev_callD {K : PySem.W.Frag} {ta : TA} {E : XK} {pre : List D → Prop} {post : List D → D → Prop} {ds : List D} {dvs : List V} {des : List D} {r : D} (hd : ∀ H, Reps c.K H dvs des) (h : EvA c ta Γ m (· = ds)) (hp : pre (ds ++ des)) (hq : ∀ d, post (ds ++ des) d → d = r) (hK : K = c.K := by rfl) : Ev c (tCall (SpP K pre post) dvs E ta) Γ m (· = r) := fun σ Hd H n s sa pe l x Q q =>
  h σ Hd H n s sa pe l x _ fun vs ds' Hd1 H1 g1 pe1 f rr => by
    subst hK; subst f
    exact ⟨Hd1, ds' ++ des, g1.s, rr.append (hd Hd1), hp, fun v d Hd2 H2 g2 f2 r2 => q v d Hd2 H2 (g1.trans g2.up) (pe1.grow g2) (hq d f2) r2⟩
end
/-! ### the pen's dict -/
section
variable {cc : Addr} {i dg ct fd v : Int}
theorem pen_cells : valV (penKvs cc i dg ct fd) (.inr "cells") = some (.ref cc) := rfl
theorem pen_at : valV (penKvs cc i dg ct fd) (.inr "at") = some (.int i) := rfl
theorem pen_digits : valV (penKvs cc i dg ct fd) (.inr "digits") = some (.int dg) := rfl
theorem pen_count : valV (penKvs cc i dg ct fd) (.inr "count") = some (.int ct) := rfl
theorem pen_fold : valV (penKvs cc i dg ct fd) (.inr "fold") = some (.int fd) := rfl
theorem put_at : putK (penKvs cc i dg ct fd) (.inr "at") (.int v) = penKvs cc v dg ct fd := rfl
theorem put_digits : putK (penKvs cc i dg ct fd) (.inr "digits") (.int v) = penKvs cc i v ct fd := rfl
theorem put_count : putK (penKvs cc i dg ct fd) (.inr "count") (.int v) = penKvs cc i dg v fd := rfl
theorem put_fold : putK (penKvs cc i dg ct fd) (.inr "fold") (.int v) = penKvs cc i dg ct v := rfl
end
end DL
set_option maxRecDepth 100000
set_option maxHeartbeats 4000000
/-! DLpen: how the pen is made and how it draws, whatever the law's text is called. -/
namespace DL
open PySem L2 PyProof.Rows
abbrev preDraw : List D → Prop := fun ds => ∃ n : Int, ds = [.int n] ∧ 0 < n ∧ n < 1073741824
abbrev postDraw : List D → D → Prop := fun ds d => ∃ n r : Int, ds = [.int n] ∧ d = .int r ∧ 0 ≤ r ∧ r < n
abbrev tG (k : Str) : TE := tDGet (tVar 0) (tC (.str k))
abbrev tI (i : Int) : TE := tC (.int i)
abbrev tIntC (t : TE) : TE := tCB (fun xs H Q => (∃ i, xs = [V.int i] ∧ Q (V.int i) H) ∨ ∃ k, xs = [V.bl k] ∧ Q (V.int (if k = true then 1 else 0)) H) (tCons t tNil)
abbrev tPw (a b : Int) : TE := tOp (rI CPow fun i j => V.int (i ^ j.toNat)) (tI a) (tI b)
abbrev tMd (a b : TE) : TE := tOp (rI (fun x j => 0 < j) fun i j => V.int (i % j)) a b
abbrev tDv (a b : TE) : TE := tOp (rI CDiv fun i j => V.int (i / j)) a b
abbrev tDraw (K : PySem.W.Frag) : TS :=
  tSeq (sDPut (tVar 0) (tC (.str "count")) (tOp (rAddU K) (tG "count") (tI 1)))
   (tSeq (tIfS (tAnd (tTest (tOp (rEqD K) (tG "digits") (tI 0))) (tTest (tOp (rI0 fun i j => V.bl (decide (i < j))) (tG "at") (tCB (fun xs H Q => ∃ x n, xs = [x] ∧ LenV K x H n ∧ Q (V.int n) H) (tCons (tG "cells") tNil)))))
      (tSeq (tAsg (tOp (rIx K) (tG "cells") (tG "at")) (gName 2))
       (tSeq (sDPut (tVar 0) (tC (.str "at")) (tOp (rAddU K) (tG "at") (tI 1)))
        (tIfS (tTest (tOp (rI0 fun i j => V.bl (decide (j ≤ i))) (tVar 2) (tPw 10 18)))
          (sDPut (tVar 0) (tC (.str "digits")) (tOp (rI0 fun i j => V.int (i - j)) (tVar 2) (tPw 10 18)))
          (sDPut (tVar 0) (tC (.str "fold")) (tMd (tIntC (tOp (rAddU K) (tOp (rMulU K) (tG "fold") (tI 71473)) (tVar 2))) (tI 2147483587))))))
      tNext)
    (tSeq (tIfS (tTest (tOp (rI0 fun i j => V.bl (decide (j < i))) (tG "digits") (tI 0)))
       (tSeq (tAsg (tMd (tIntC (tG "digits")) (tVar 1)) (gName 3)) (tSeq (sDPut (tVar 0) (tC (.str "digits")) (tDv (tG "digits") (tVar 1))) (tRet (tVar 3))))
       tNext)
     (tSeq (tAsg (tOp (rAddU K) (tOp (rAddU K) (tG "fold") (tOp (rMulU K) (tG "count") (tI 7907))) (tI 67)) (gName 4))
      (tRet (tMd (tDv (tIntC (tMd (tOp (rI CPow fun i j => V.int (i ^ j.toNat)) (tVar 4) (tI 17)) (tI 2305843009213693951))) (tI 128)) (tVar 1))))))
section
variable {K : PySem.W.Frag} {σ : L2.St} {H : Hp} {p : Addr} {kvs : List (Key × V)} {k : Str} {v : V} {Q : VK}
theorem rd_get (hs : σ[0]? = some (some (.ref p))) (hp : H p = some (.dK kvs)) (hv : valV kvs (.inr k) = some v) (q : Q v H) : tG k σ H Q :=
  ⟨_, hs, p, v, rfl, by rw [← hv]; exact DGet.k (k := .inr k) hp, q⟩
theorem dput_of (hp : H p = some (.dK kvs)) (hl : kvs.length < 100) : DPut H p (.str k) v (upd H p (.dK (putK kvs (.inr k) v))) := DPut.k (k := .inr k) hp (by rw [sizeLine_eq]; omega)
theorem draw_ok {a cc : Addr} {Hd : Hp} {n : Nat} {many : Int} (sa : Same Hd H) (pe : PenAt n Hd H a cc) (hn : n + 1 ≤ LIM) (m0 : 0 < many) (m1 : many < 1073741824)
    (q : ∀ (v : V) (d : D) (Hd' H' : Hp), Grow (some a) Hd H Hd' H' → PenAt (n + 1) Hd' H' a cc → postDraw [D.int many] d → Rep K Hd' v d → Q v H') :
    tDraw K { nx := fun _ H' => Q V.non H', rt := Q } [some (.ref a), some (.int many), none, none, none] H := by
  obtain ⟨⟨i, dg, ct, fd, hp, i0, d0, c0, c1, f0, f1⟩, nd, ns, hc, nl⟩ := pe
  have nca : cc ≠ a := fun z => by subst z; rw [nd] at hc; cases hc
  -- what is wanted of an end
  have fin : ∀ (r : Int) (H' : Hp) (i dg ct fd : Int), (∀ b, b ≠ a → H' b = H b) → H' a = some (.dK (penKvs cc i dg ct fd)) → 0 ≤ i → 0 ≤ dg → 0 ≤ ct → ct ≤ n + 1 → 0 ≤ fd → fd < 2147483587 → 0 ≤ r → r < many → Q (.int r) H' := by
    intro r H' i dg ct fd same hp' a1 a2 a3 a4 a5 a6 a7 a8
    have ne : ∀ b o, Hd b = some o → b ≠ a := fun b o e z => by subst z; rw [nd] at e; cases e
    refine q _ (.int r) Hd H' ⟨Same.refl _, fun b o z e => ?_, fun b o e => ?_, fun _ _ z => z, fun b e => ?_⟩ ⟨⟨i, dg, ct, fd, hp', a1, a2, a3, by omega, a5, a6⟩, nd, ns, hc, nl⟩ ⟨many, r, rfl, rfl, a7, a8⟩ (.int r)
    · rw [same b (fun y => z (by rw [y]))]; exact e
    · rw [same b (ne b o e)]; exact sa _ _ e
    · by_cases z : b = a
      · subst z; rw [hp']; exact fun y => nomatch y
      · rw [same b z]; exact e
  -- the last part, from any state of the pen
  have last : ∀ (σ : L2.St) (H' : Hp) (i dg ct fd : Int), σ[0]? = some (some (.ref a)) → σ[1]? = some (some (.int many)) → σ.length = 5 → (∀ b, b ≠ a → H' b = H b) → H' a = some (.dK (penKvs cc i dg ct fd)) → 0 ≤ i → 0 ≤ dg → 0 ≤ ct → ct ≤ n + 1 → 0 ≤ fd → fd < 2147483587 →
      (tSeq (tIfS (tTest (tOp (rI0 fun i j => V.bl (decide (j < i))) (tG "digits") (tI 0)))
       (tSeq (tAsg (tMd (tIntC (tG "digits")) (tVar 1)) (gName 3)) (tSeq (sDPut (tVar 0) (tC (.str "digits")) (tDv (tG "digits") (tVar 1))) (tRet (tVar 3))))
       tNext)
     (tSeq (tAsg (tOp (rAddU K) (tOp (rAddU K) (tG "fold") (tOp (rMulU K) (tG "count") (tI 7907))) (tI 67)) (gName 4))
      (tRet (tMd (tDv (tIntC (tMd (tOp (rI CPow fun i j => V.int (i ^ j.toNat)) (tVar 4) (tI 17)) (tI 2305843009213693951))) (tI 128)) (tVar 1))))) { nx := fun _ H' => Q V.non H', rt := Q } σ H' := by
    intro σ H' i dg ct fd h0 h1 hl same hp' a1 a2 a3 a4 a5 a6
    refine rd_get h0 hp' pen_digits ⟨_, _, rfl, rfl, _, rfl, ite2 (fun hpos => ?_) fun hneg => ?_⟩
    · have hpos' : 0 < dg := of_decide_eq_true hpos
      refine rd_get h0 hp' pen_digits (.inl ⟨_, rfl, _, h1, _, _, rfl, rfl, m0, ?_⟩)
      have s0 : (σ.set 3 (some (V.int (dg % many))))[0]? = some (some (.ref a)) := by rw [List.getElem?_set_ne (by decide)]; exact h0
      have s1 : (σ.set 3 (some (V.int (dg % many))))[1]? = some (some (.int many)) := by rw [List.getElem?_set_ne (by decide)]; exact h1
      have s3 : (σ.set 3 (some (V.int (dg % many))))[3]? = some (some (V.int (dg % many))) := List.getElem?_set_self (by omega)
      refine rd_get s0 hp' pen_digits ⟨_, s1, _, _, rfl, rfl, ⟨m0, m1⟩, _, s0, a, _, rfl, dput_of hp' (show 5 < 100 by decide), _, s3, ?_⟩
      rw [put_digits]
      refine fin (dg % many) _ i (dg / many) ct fd (fun b z => ?_) upd_same a1 (Int.ediv_nonneg a2 (by omega)) a3 a4 a5 a6 (Int.emod_nonneg _ (by omega)) (Int.emod_lt_of_pos _ m0)
      rw [upd_ne z]; exact same b z
    · refine rd_get h0 hp' pen_fold (rd_get h0 hp' pen_count (.inl ⟨_, _, rfl, rfl, .inr (by omega), .inl ⟨_, _, rfl, rfl, .inl ⟨_, _, rfl, rfl, ?_⟩⟩⟩))
      have s1 : (σ.set 4 (some (V.int (fd + ct * 7907 + 67))))[1]? = some (some (.int many)) := by rw [List.getElem?_set_ne (by decide)]; exact h1
      have s4 : (σ.set 4 (some (V.int (fd + ct * 7907 + 67))))[4]? = some (some (V.int (fd + ct * 7907 + 67))) := List.getElem?_set_self (by omega)
      have hL : (n : Int) + 1 ≤ 1000000000000 := by have : n + 1 ≤ 1000000000000 := hn; omega
      refine ⟨_, s4, _, _, rfl, rfl, ⟨by decide, by decide, by omega⟩, _, _, rfl, rfl, (show (0 : Int) < 2305843009213693951 by decide), .inl ⟨_, rfl, _, _, rfl, rfl, ⟨by decide, by decide⟩, _, s1, _, _, rfl, rfl, m0, ?_⟩⟩
      exact fin _ _ i dg ct fd same hp' a1 a2 a3 a4 a5 a6 (Int.emod_nonneg _ (by omega)) (Int.emod_lt_of_pos _ m0)
  -- count
  have s0 : ([some (.ref a), some (.int many), none, none, none] : L2.St)[0]? = some (some (.ref a)) := rfl
  refine rd_get s0 hp pen_count (.inl ⟨_, _, rfl, rfl, _, s0, a, _, rfl, dput_of hp (show 5 < 100 by decide), ?_⟩)
  rw [put_count]
  have hp1 : upd H a (.dK (penKvs cc i dg (ct + 1) fd)) a = some (.dK (penKvs cc i dg (ct + 1) fd)) := upd_same
  generalize hH1 : upd H a (.dK (penKvs cc i dg (ct + 1) fd)) = H1 at hp1
  have same1 : ∀ b, b ≠ a → H1 b = H b := fun b z => by rw [← hH1]; exact upd_ne z
  have hcc : H1 cc = some (.lst (ns.map V.int)) := by rw [same1 cc nca]; exact sa _ _ hc
  refine rd_get s0 hp1 pen_digits ⟨.int dg, .int 0, .int _, .int _, rfl, rfl, _, rfl, ite2 (fun z => ?_) fun z => ?_⟩
  · have dz : dg = 0 := by
      have z' : (dg == 0) = true := z
      exact eq_of_beq z'
    refine rd_get s0 hp1 pen_at (rd_get s0 hp1 pen_cells ⟨_, _, rfl, .inl ⟨_, SqL.of hcc, rfl⟩, _, _, rfl, rfl, _, rfl, ite2 (fun y => ?_) fun y => ?_⟩)
    · have y' := of_decide_eq_true y
      rw [List.length_map] at y'
      obtain ⟨j, rfl⟩ : ∃ j : Nat, i = (j : Int) := ⟨i.toNat, by omega⟩
      have hj : j < ns.length := by omega
      have hcell : atI (ns.map V.int) (j : Int) = some (V.int ns[j]) := atI_nat (by rw [List.getElem?_map, List.getElem?_eq_getElem hj]; rfl)
      refine rd_get s0 hp1 pen_cells (rd_get s0 hp1 pen_at (.inl ⟨_, _, _, _, rfl, rfl, SqL.of hcc, hcell, ?_⟩))
      have t0 : (([some (.ref a), some (.int many), none, none, none] : L2.St).set 2 (some (V.int ns[j])))[0]? = some (some (.ref a)) := rfl
      have t1 : (([some (.ref a), some (.int many), none, none, none] : L2.St).set 2 (some (V.int ns[j])))[1]? = some (some (.int many)) := rfl
      have t2 : (([some (.ref a), some (.int many), none, none, none] : L2.St).set 2 (some (V.int ns[j])))[2]? = some (some (V.int ns[j])) := rfl
      generalize ns[j] = cell at t0 t1 t2 ⊢
      refine rd_get t0 hp1 pen_at (.inl ⟨_, _, rfl, rfl, _, t0, a, _, rfl, dput_of hp1 (show 5 < 100 by decide), ?_⟩)
      rw [put_at]
      have hp2 : upd H1 a (.dK (penKvs cc ((j : Int) + 1) dg (ct + 1) fd)) a = some (.dK (penKvs cc ((j : Int) + 1) dg (ct + 1) fd)) := upd_same
      generalize hH2 : upd H1 a (.dK (penKvs cc ((j : Int) + 1) dg (ct + 1) fd)) = H2 at hp2
      have same2 : ∀ b, b ≠ a → H2 b = H b := fun b z => by rw [← hH2, upd_ne z]; exact same1 b z
      refine ⟨_, t2, _, _, rfl, rfl, ⟨by decide, by decide, by decide⟩, _, _, rfl, rfl, _, rfl, ite2 (fun x => ?_) fun x => ?_⟩
      · have x' := of_decide_eq_true x
        refine ⟨_, t2, _, _, rfl, rfl, ⟨by decide, by decide, by decide⟩, _, _, rfl, rfl, _, t0, a, _, rfl, dput_of hp2 (show 5 < 100 by decide), ?_⟩
        rw [put_digits]
        exact last _ _ _ _ _ _ t0 t1 rfl (fun b z => by rw [upd_ne z]; exact same2 b z) upd_same (by omega) (by omega) (by omega) (by omega) f0 f1
      · refine rd_get t0 hp2 pen_fold (.inl ⟨_, _, rfl, rfl, .inr (by omega), _, t2, .inl ⟨_, _, rfl, rfl, .inl ⟨_, rfl, _, _, rfl, rfl, (show (0 : Int) < 2147483587 by decide), _, t0, a, _, rfl, dput_of hp2 (show 5 < 100 by decide), ?_⟩⟩⟩)
        rw [put_fold]
        exact last _ _ _ _ _ _ t0 t1 rfl (fun b z => by rw [upd_ne z]; exact same2 b z) upd_same (by omega) d0 (by omega) (by omega) (Int.emod_nonneg _ (by decide)) (Int.emod_lt_of_pos _ (by decide))
    · exact last _ _ _ _ _ _ s0 rfl rfl same1 hp1 i0 d0 (by omega) (by omega) f0 f1
  · exact last _ _ _ _ _ _ s0 rfl rfl same1 hp1 i0 d0 (by omega) (by omega) f0 f1

/-! ### the pen made -/
def SpPen (K : PySem.W.Frag) : Sp := fun vs H Q _ => ∃ (a : Addr) (ns : List Int), vs = [.ref a] ∧ SqL K H a (ns.map V.int) ∧ ns.length ≤ 63 ∧
  ∀ (p c : Addr) (fd : Int) (H' : Hp), Same H H' → H p = none → H c = none → c ≠ p → H' p = some (.dK (penKvs c 0 0 0 fd)) → H' c = some (.lst (ns.map V.int)) → 0 ≤ fd → fd < 2147483587 → Q (.ref p) H'
def SpLaw (K : PySem.W.Frag) : Sp := fun vs H Q _ => ∃ (a : Addr) (ns : List Int), vs = [.ref a] ∧ SqL K H a (ns.map V.int) ∧ ns.length ≤ 63 ∧ ∀ H', Q (.bl true) H'
abbrev tPenMake (K : PySem.W.Frag) : TS :=
  tSeq (tAsg (tI 0) (gName 1)) (tSeq (tFor (iSeq K (tVar 0)) (gName 2) (tAsg (tMd (tIntC (tOp (rAddU K) (tOp (rMulU K) (tVar 1) (tI 59)) (tVar 2))) (tI 1000000021)) (gName 1)))
   (tRet (tDisp [(tC (.str "cells"), tCB (fun xs H Q => ∃ p ys, xs = [.ref p] ∧ (SqL K H p ys ∨ SqT K H p ys) ∧ ∀ l, H l = none → Q (.ref l) (upd H l (.lst ys))) (tCons (tVar 0) tNil)), (tC (.str "at"), tI 0), (tC (.str "digits"), tI 0), (tC (.str "count"), tI 0), (tC (.str "fold"), tVar 1)])))
theorem penMake_ok {a : Addr} {ns : List Int} {H : Hp} (hs : SqL K H a (ns.map V.int)) (q : ∀ (p c : Addr) (fd : Int) (H' : Hp), Same H H' → H p = none → H c = none → c ≠ p → H' p = some (.dK (penKvs c 0 0 0 fd)) → H' c = some (.lst (ns.map V.int)) → 0 ≤ fd → fd < 2147483587 → Q (.ref p) H') :
    tPenMake K { nx := fun _ H' => Q V.non H', rt := Q } [some (.ref a), none, none] H := by
  refine ⟨_, rfl, .inl ⟨a, rfl, ⟨_, hs⟩, for_list (K := K) (a := a) (xs := ns.map V.int) (fun _ σ H' => H' = H ∧ ∃ (fd : Int) (o : Option V), 0 ≤ fd ∧ fd < 1000000021 ∧ σ = [some (.ref a), some (.int fd), o]) ⟨rfl, 0, none, by decide, by decide, rfl⟩ (fun _ _ _ _ z => by rw [z.1]; exact hs) ?_ ?_⟩⟩
  · rintro i y σ H' hy ⟨rfl, fd, o, f0, f1, rfl⟩
    obtain ⟨cell, rfl⟩ : ∃ cell, y = V.int cell := by
      rw [List.getElem?_map] at hy
      cases z : ns[i]? with
      | none => rw [z] at hy; cases hy
      | some cell => rw [z] at hy; exact ⟨cell, (Option.some.inj hy).symm⟩
    refine ⟨_, rfl, .inl ⟨_, _, rfl, rfl, .inr (by omega), _, rfl, .inl ⟨_, _, rfl, rfl, .inl ⟨_, rfl, _, _, rfl, rfl, (show (0 : Int) < 1000000021 by decide), rfl, _, _, Int.emod_nonneg _ (by decide), Int.emod_lt_of_pos _ (by decide), rfl⟩⟩⟩⟩
  · rintro σ H' ⟨rfl, fd, o, f0, f1, rfl⟩
    refine fun p hp => ⟨_, rfl, a, _, rfl, .inl (Same.seq (fun b u e => ?_) hs), fun l hl => ⟨_, rfl, ?_⟩⟩
    · rw [upd_ne (ne_of_none e hp)]; exact e
    have nlp : l ≠ p := fun z => by subst z; rw [upd_same] at hl; cases hl
    have hl0 : H' l = none := by rw [upd_ne nlp] at hl; exact hl
    refine ⟨by rw [upd_ne nlp.symm]; exact upd_same, [(.inr "cells", .ref l), (.inr "at", .int 0), (.inr "digits", .int 0), (.inr "count", .int 0), (.inr "fold", .int fd)], rfl, (show 5 ≤ 15 by decide), ?_⟩
    refine q p l fd _ (fun b u e => ?_) hp hl0 nlp upd_same (by rw [upd_ne nlp]; exact upd_same) f0 (by omega)
    have z1 : b ≠ p := ne_of_none e hp
    have z2 : b ≠ l := ne_of_none e hl0
    rw [upd_ne z1, upd_ne z2, upd_ne z1]; exact e
/-! ### a law from its pen on -/
def GL (n : Nat) : List Sk := .un :: .pen :: List.replicate n .un
theorem law_start {N : List Str} {n m : Nat} {a : Addr} {ns : List Int} {H : Hp} {rest : TS} {E : XK} (hN : N.length = n + 2) (hm : m ≤ LIM) (hs : SqL K H a (ns.map V.int)) (hl : ns.length ≤ 63)
    (hw : ∀ p c, Wp ⟨K, some (p, c), L2.E0, fun _ _ => False⟩ rest (GL n) m (retW (· = .bl true))) (q : ∀ H', Q (.bl true) H') :
    tSeq (tAsg (tCall (SpPen K) [] E (tCons (tVar 0) tNil)) (gName 1)) rest { nx := fun _ H' => Q V.non H', rt := Q } (L2.start N [.ref a]) H := by
  have st : L2.start N [.ref a] = some (.ref a) :: none :: List.replicate n none := by
    unfold L2.start
    rw [hN]
    show some (V.ref a) :: List.replicate (n + 1) none = _
    rw [List.replicate_succ]
  rw [st]
  refine ⟨_, rfl, a, ns, rfl, hs, hl, fun p c fd H' s hp hc ncp e1 e2 f0 f1 => ?_⟩
  let Hd : Hp := upd (fun _ => none) c (.lst (ns.map V.int))
  have hdc : Hd c = some (.lst (ns.map V.int)) := upd_same
  have hdn : ∀ b, b ≠ c → Hd b = none := fun b z => upd_ne z
  have sa : Same Hd H' := fun b o e => by
    by_cases z : b = c
    · subst z; rw [hdc] at e; cases e; exact e2
    · rw [hdn b z] at e; cases e
  have sr : SR K (some (p, c)) Hd H' (some (.ref a) :: some (.ref p) :: List.replicate n none) (GL n) := by
    have own : ∀ (i : Nat) (k : Sk), (GL n)[i]? = some k → k.isOwn = false := fun i k h => by
      match i, h with
      | 0, h => cases h; rfl
      | 1, h => cases h; rfl
      | i + 2, h =>
        have h' : (List.replicate n Sk.un)[i]? = some k := h
        rw [List.getElem?_replicate] at h'
        split at h' <;> cases h'
        rfl
    refine ⟨by simp [GL], fun i o k h1 h2 => ?_, fun i j k1 k2 l ne h1 o1 => by rw [own i k1 h1] at o1; cases o1⟩
    match i, h1, h2 with
    | 0, h1, h2 => cases h2; exact True.intro
    | 1, h1, h2 => cases h1; cases h2; exact ⟨p, rfl, rfl⟩
    | i + 2, h1, h2 =>
      have h' : (List.replicate n Sk.un)[i]? = some k := h2
      rw [List.getElem?_replicate] at h'
      split at h' <;> cases h'
      exact True.intro
  have pe : PenO (some (p, c)) 0 Hd H' := ⟨⟨0, 0, 0, fd, e1, by decide, by decide, by decide, by decide, f0, f1⟩, hdn p (fun z => ncp z.symm), ns, hdc, hl⟩
  have goal := hw p c Hd Hd H' (some (.ref a) :: some (.ref p) :: List.replicate n none) Hd H' 0 ⟨Same.refl _, sa, .refl sa, sr, pe, fun i k l h1 h2 h3 => by
    have z : k.isOwn = false := by
      match i, h1 with
      | 0, h => cases h; rfl
      | 1, h => cases h; rfl
      | i + 2, h =>
        have h' : (List.replicate n Sk.un)[i]? = some k := h
        rw [List.getElem?_replicate] at h'
        split at h' <;> cases h'
        rfl
    rw [z] at h2; cases h2⟩ (by omega) (fun _ _ _ _ _ _ hh _ => hh.elim) { nx := fun _ H' => Q V.non H', rt := Q } ?_ ?_ ?_ ?_
  · exact goal
  · intro Γ' σ' Hd' H2 z _
    have z' : D.non = D.bl true := z
    cases z'
  · intro _ _ _ _ z; exact z.elim
  · intro _ _ _ _ z; exact z.elim
  · intro v d Hd' H2 z _ _ r
    have z' : d = D.bl true := z
    subst z'
    cases r
    exact q H2
end
end DL
set_option maxRecDepth 100000
set_option maxHeartbeats 4000000
/-! DLpenW: the pen draws from any number of things (the divisor may be large). -/
namespace DL
open PySem L2 PyProof.Rows
abbrev tDvW (a b : TE) : TE := tOp (rI CDivW fun i j => V.int (i / j)) a b
abbrev tDrawW (K : PySem.W.Frag) : TS :=
  tSeq (sDPut (tVar 0) (tC (.str "count")) (tOp (rAddU K) (tG "count") (tI 1)))
   (tSeq (tIfS (tAnd (tTest (tOp (rEqD K) (tG "digits") (tI 0))) (tTest (tOp (rI0 fun i j => V.bl (decide (i < j))) (tG "at") (tCB (fun xs H Q => ∃ x n, xs = [x] ∧ LenV K x H n ∧ Q (V.int n) H) (tCons (tG "cells") tNil)))))
      (tSeq (tAsg (tOp (rIx K) (tG "cells") (tG "at")) (gName 2))
       (tSeq (sDPut (tVar 0) (tC (.str "at")) (tOp (rAddU K) (tG "at") (tI 1)))
        (tIfS (tTest (tOp (rI0 fun i j => V.bl (decide (j ≤ i))) (tVar 2) (tPw 10 18)))
          (sDPut (tVar 0) (tC (.str "digits")) (tOp (rI0 fun i j => V.int (i - j)) (tVar 2) (tPw 10 18)))
          (sDPut (tVar 0) (tC (.str "fold")) (tMd (tIntC (tOp (rAddU K) (tOp (rMulU K) (tG "fold") (tI 71473)) (tVar 2))) (tI 2147483587))))))
      tNext)
    (tSeq (tIfS (tTest (tOp (rI0 fun i j => V.bl (decide (j < i))) (tG "digits") (tI 0)))
       (tSeq (tAsg (tMd (tIntC (tG "digits")) (tVar 1)) (gName 3)) (tSeq (sDPut (tVar 0) (tC (.str "digits")) (tDvW (tG "digits") (tVar 1))) (tRet (tVar 3))))
       tNext)
     (tSeq (tAsg (tOp (rAddU K) (tOp (rAddU K) (tG "fold") (tOp (rMulU K) (tG "count") (tI 7907))) (tI 67)) (gName 4))
      (tRet (tMd (tDvW (tIntC (tMd (tOp (rI CPow fun i j => V.int (i ^ j.toNat)) (tVar 4) (tI 17)) (tI 2305843009213693951))) (tI 128)) (tVar 1))))))
section
variable {K : PySem.W.Frag} {σ : L2.St} {H : Hp} {p : Addr} {kvs : List (Key × V)} {k : Str} {v : V} {Q : VK}
theorem drawW_ok {a cc : Addr} {Hd : Hp} {n : Nat} {many : Int} (sa : Same Hd H) (pe : PenAt n Hd H a cc) (hn : n + 1 ≤ LIM) (m0 : 0 < many) (m1 : many.natAbs.log2 < 9000)
    (q : ∀ (v : V) (d : D) (Hd' H' : Hp), Grow (some a) Hd H Hd' H' → PenAt (n + 1) Hd' H' a cc → postDraw [D.int many] d → Rep K Hd' v d → Q v H') :
    tDrawW K { nx := fun _ H' => Q V.non H', rt := Q } [some (.ref a), some (.int many), none, none, none] H := by
  obtain ⟨⟨i, dg, ct, fd, hp, i0, d0, c0, c1, f0, f1⟩, nd, ns, hc, nl⟩ := pe
  have nca : cc ≠ a := fun z => by subst z; rw [nd] at hc; cases hc
  -- what is wanted of an end
  have fin : ∀ (r : Int) (H' : Hp) (i dg ct fd : Int), (∀ b, b ≠ a → H' b = H b) → H' a = some (.dK (penKvs cc i dg ct fd)) → 0 ≤ i → 0 ≤ dg → 0 ≤ ct → ct ≤ n + 1 → 0 ≤ fd → fd < 2147483587 → 0 ≤ r → r < many → Q (.int r) H' := by
    intro r H' i dg ct fd same hp' a1 a2 a3 a4 a5 a6 a7 a8
    have ne : ∀ b o, Hd b = some o → b ≠ a := fun b o e z => by subst z; rw [nd] at e; cases e
    refine q _ (.int r) Hd H' ⟨Same.refl _, fun b o z e => ?_, fun b o e => ?_, fun _ _ z => z, fun b e => ?_⟩ ⟨⟨i, dg, ct, fd, hp', a1, a2, a3, by omega, a5, a6⟩, nd, ns, hc, nl⟩ ⟨many, r, rfl, rfl, a7, a8⟩ (.int r)
    · rw [same b (fun y => z (by rw [y]))]; exact e
    · rw [same b (ne b o e)]; exact sa _ _ e
    · by_cases z : b = a
      · subst z; rw [hp']; exact fun y => nomatch y
      · rw [same b z]; exact e
  -- the last part, from any state of the pen
  have last : ∀ (σ : L2.St) (H' : Hp) (i dg ct fd : Int), σ[0]? = some (some (.ref a)) → σ[1]? = some (some (.int many)) → σ.length = 5 → (∀ b, b ≠ a → H' b = H b) → H' a = some (.dK (penKvs cc i dg ct fd)) → 0 ≤ i → 0 ≤ dg → 0 ≤ ct → ct ≤ n + 1 → 0 ≤ fd → fd < 2147483587 →
      (tSeq (tIfS (tTest (tOp (rI0 fun i j => V.bl (decide (j < i))) (tG "digits") (tI 0)))
       (tSeq (tAsg (tMd (tIntC (tG "digits")) (tVar 1)) (gName 3)) (tSeq (sDPut (tVar 0) (tC (.str "digits")) (tDvW (tG "digits") (tVar 1))) (tRet (tVar 3))))
       tNext)
     (tSeq (tAsg (tOp (rAddU K) (tOp (rAddU K) (tG "fold") (tOp (rMulU K) (tG "count") (tI 7907))) (tI 67)) (gName 4))
      (tRet (tMd (tDvW (tIntC (tMd (tOp (rI CPow fun i j => V.int (i ^ j.toNat)) (tVar 4) (tI 17)) (tI 2305843009213693951))) (tI 128)) (tVar 1))))) { nx := fun _ H' => Q V.non H', rt := Q } σ H' := by
    intro σ H' i dg ct fd h0 h1 hl same hp' a1 a2 a3 a4 a5 a6
    refine rd_get h0 hp' pen_digits ⟨_, _, rfl, rfl, _, rfl, ite2 (fun hpos => ?_) fun hneg => ?_⟩
    · have hpos' : 0 < dg := of_decide_eq_true hpos
      refine rd_get h0 hp' pen_digits (.inl ⟨_, rfl, _, h1, _, _, rfl, rfl, m0, ?_⟩)
      have s0 : (σ.set 3 (some (V.int (dg % many))))[0]? = some (some (.ref a)) := by rw [List.getElem?_set_ne (by decide)]; exact h0
      have s1 : (σ.set 3 (some (V.int (dg % many))))[1]? = some (some (.int many)) := by rw [List.getElem?_set_ne (by decide)]; exact h1
      have s3 : (σ.set 3 (some (V.int (dg % many))))[3]? = some (some (V.int (dg % many))) := List.getElem?_set_self (by omega)
      refine rd_get s0 hp' pen_digits ⟨_, s1, _, _, rfl, rfl, ⟨m0, m1⟩, _, s0, a, _, rfl, dput_of hp' (show 5 < 100 by decide), _, s3, ?_⟩
      rw [put_digits]
      refine fin (dg % many) _ i (dg / many) ct fd (fun b z => ?_) upd_same a1 (Int.ediv_nonneg a2 (by omega)) a3 a4 a5 a6 (Int.emod_nonneg _ (by omega)) (Int.emod_lt_of_pos _ m0)
      rw [upd_ne z]; exact same b z
    · refine rd_get h0 hp' pen_fold (rd_get h0 hp' pen_count (.inl ⟨_, _, rfl, rfl, .inr (by omega), .inl ⟨_, _, rfl, rfl, .inl ⟨_, _, rfl, rfl, ?_⟩⟩⟩))
      have s1 : (σ.set 4 (some (V.int (fd + ct * 7907 + 67))))[1]? = some (some (.int many)) := by rw [List.getElem?_set_ne (by decide)]; exact h1
      have s4 : (σ.set 4 (some (V.int (fd + ct * 7907 + 67))))[4]? = some (some (V.int (fd + ct * 7907 + 67))) := List.getElem?_set_self (by omega)
      have hL : (n : Int) + 1 ≤ 1000000000000 := by have : n + 1 ≤ 1000000000000 := hn; omega
      refine ⟨_, s4, _, _, rfl, rfl, ⟨by decide, by decide, by omega⟩, _, _, rfl, rfl, (show (0 : Int) < 2305843009213693951 by decide), .inl ⟨_, rfl, _, _, rfl, rfl, ⟨by decide, by decide +kernel⟩, _, s1, _, _, rfl, rfl, m0, ?_⟩⟩
      exact fin _ _ i dg ct fd same hp' a1 a2 a3 a4 a5 a6 (Int.emod_nonneg _ (by omega)) (Int.emod_lt_of_pos _ m0)
  -- count
  have s0 : ([some (.ref a), some (.int many), none, none, none] : L2.St)[0]? = some (some (.ref a)) := rfl
  refine rd_get s0 hp pen_count (.inl ⟨_, _, rfl, rfl, _, s0, a, _, rfl, dput_of hp (show 5 < 100 by decide), ?_⟩)
  rw [put_count]
  have hp1 : upd H a (.dK (penKvs cc i dg (ct + 1) fd)) a = some (.dK (penKvs cc i dg (ct + 1) fd)) := upd_same
  generalize hH1 : upd H a (.dK (penKvs cc i dg (ct + 1) fd)) = H1 at hp1
  have same1 : ∀ b, b ≠ a → H1 b = H b := fun b z => by rw [← hH1]; exact upd_ne z
  have hcc : H1 cc = some (.lst (ns.map V.int)) := by rw [same1 cc nca]; exact sa _ _ hc
  refine rd_get s0 hp1 pen_digits ⟨.int dg, .int 0, .int _, .int _, rfl, rfl, _, rfl, ite2 (fun z => ?_) fun z => ?_⟩
  · have dz : dg = 0 := by
      have z' : (dg == 0) = true := z
      exact eq_of_beq z'
    refine rd_get s0 hp1 pen_at (rd_get s0 hp1 pen_cells ⟨_, _, rfl, .inl ⟨_, SqL.of hcc, rfl⟩, _, _, rfl, rfl, _, rfl, ite2 (fun y => ?_) fun y => ?_⟩)
    · have y' := of_decide_eq_true y
      rw [List.length_map] at y'
      obtain ⟨j, rfl⟩ : ∃ j : Nat, i = (j : Int) := ⟨i.toNat, by omega⟩
      have hj : j < ns.length := by omega
      have hcell : atI (ns.map V.int) (j : Int) = some (V.int ns[j]) := atI_nat (by rw [List.getElem?_map, List.getElem?_eq_getElem hj]; rfl)
      refine rd_get s0 hp1 pen_cells (rd_get s0 hp1 pen_at (.inl ⟨_, _, _, _, rfl, rfl, SqL.of hcc, hcell, ?_⟩))
      have t0 : (([some (.ref a), some (.int many), none, none, none] : L2.St).set 2 (some (V.int ns[j])))[0]? = some (some (.ref a)) := rfl
      have t1 : (([some (.ref a), some (.int many), none, none, none] : L2.St).set 2 (some (V.int ns[j])))[1]? = some (some (.int many)) := rfl
      have t2 : (([some (.ref a), some (.int many), none, none, none] : L2.St).set 2 (some (V.int ns[j])))[2]? = some (some (V.int ns[j])) := rfl
      generalize ns[j] = cell at t0 t1 t2 ⊢
      refine rd_get t0 hp1 pen_at (.inl ⟨_, _, rfl, rfl, _, t0, a, _, rfl, dput_of hp1 (show 5 < 100 by decide), ?_⟩)
      rw [put_at]
      have hp2 : upd H1 a (.dK (penKvs cc ((j : Int) + 1) dg (ct + 1) fd)) a = some (.dK (penKvs cc ((j : Int) + 1) dg (ct + 1) fd)) := upd_same
      generalize hH2 : upd H1 a (.dK (penKvs cc ((j : Int) + 1) dg (ct + 1) fd)) = H2 at hp2
      have same2 : ∀ b, b ≠ a → H2 b = H b := fun b z => by rw [← hH2, upd_ne z]; exact same1 b z
      refine ⟨_, t2, _, _, rfl, rfl, ⟨by decide, by decide, by decide⟩, _, _, rfl, rfl, _, rfl, ite2 (fun x => ?_) fun x => ?_⟩
      · have x' := of_decide_eq_true x
        refine ⟨_, t2, _, _, rfl, rfl, ⟨by decide, by decide, by decide⟩, _, _, rfl, rfl, _, t0, a, _, rfl, dput_of hp2 (show 5 < 100 by decide), ?_⟩
        rw [put_digits]
        exact last _ _ _ _ _ _ t0 t1 rfl (fun b z => by rw [upd_ne z]; exact same2 b z) upd_same (by omega) (by omega) (by omega) (by omega) f0 f1
      · refine rd_get t0 hp2 pen_fold (.inl ⟨_, _, rfl, rfl, .inr (by omega), _, t2, .inl ⟨_, _, rfl, rfl, .inl ⟨_, rfl, _, _, rfl, rfl, (show (0 : Int) < 2147483587 by decide), _, t0, a, _, rfl, dput_of hp2 (show 5 < 100 by decide), ?_⟩⟩⟩)
        rw [put_fold]
        exact last _ _ _ _ _ _ t0 t1 rfl (fun b z => by rw [upd_ne z]; exact same2 b z) upd_same (by omega) d0 (by omega) (by omega) (Int.emod_nonneg _ (by decide)) (Int.emod_lt_of_pos _ (by decide))
    · exact last _ _ _ _ _ _ s0 rfl rfl same1 hp1 i0 d0 (by omega) (by omega) f0 f1
  · exact last _ _ _ _ _ _ s0 rfl rfl same1 hp1 i0 d0 (by omega) (by omega) f0 f1

end
end DL
set_option maxRecDepth 100000
set_option maxHeartbeats 4000000
/-! DLx: forms for the tactics: tests of known truth, isinstance by a table, good values. -/
namespace DL
open PySem L2 PyProof.Rows
section
variable {c : Ct} {Γ : List Sk} {m m1 m2 m3 : Nat} {te ta tb : TE} {t u : TT}
theorem eb_orT (h : EvB c t Γ m (· = true)) : EvB c (tOr t u) Γ m (· = true) := (eb_or (m2 := 0) (β := (· = true)) h (fun e => absurd e (by simp)) fun _ => rfl)
theorem eb_orFT (h : EvB c t Γ m1 (· = false)) (h2 : EvB c u Γ m2 (· = true)) : EvB c (tOr t u) Γ (m1 + m2) (· = true) := eb_or h (fun _ => h2) fun e => absurd e (by simp)
theorem eb_orFF (h : EvB c t Γ m1 (· = false)) (h2 : EvB c u Γ m2 (· = false)) : EvB c (tOr t u) Γ (m1 + m2) (· = false) := eb_or h (fun _ => h2) fun e => absurd e (by simp)
theorem eb_andF (h : EvB c t Γ m (· = false)) : EvB c (tAnd t u) Γ m (· = false) := (eb_and (m2 := 0) (β := (· = false)) h (fun e => absurd e (by simp)) fun _ => rfl)
theorem eb_andTF (h : EvB c t Γ m1 (· = true)) (h2 : EvB c u Γ m2 (· = false)) : EvB c (tAnd t u) Γ (m1 + m2) (· = false) := eb_and h (fun _ => h2) fun e => absurd e (by simp)
theorem eb_andTT (h : EvB c t Γ m1 (· = true)) (h2 : EvB c u Γ m2 (· = true)) : EvB c (tAnd t u) Γ (m1 + m2) (· = true) := eb_and h (fun _ => h2) fun e => absurd e (by simp)
theorem eb_notT (h : EvB c t Γ m (· = true)) : EvB c (tNot t) Γ m (· = false) := (eb_not_ h)
theorem eb_notF (h : EvB c t Γ m (· = false)) : EvB c (tNot t) Γ m (· = true) := (eb_not_ h)
/-- a < b < c of whole numbers -/
theorem ev_chainI {f g : Int → Int → Bool} {tc : TE} {i j k : Int} (ha : Ev c ta Γ m1 (· = .int i)) (hb : Ev c tb Γ m2 (· = .int j)) (hc : Ev c tc Γ m3 (· = .int k)) :
    Ev c (tChain (rI0 fun i j => V.bl (f i j)) (rI0 fun i j => V.bl (g i j)) ta tb tc) Γ (m1 + m2 + m3) (· = .bl (f i j && g j k)) := fun σ Hd H n s sa pe l x Q q =>
  ha σ Hd H n s sa pe (by omega) x _ fun v d Hd1 H1 g1 pe1 e r1 => hb σ Hd1 H1 _ (s.grow g1) g1.s pe1 (by omega) (x.grow g1) _ fun v2 d2 Hd2 H2 g2 pe2 e2 r2 => by
    subst e; subst e2
    cases r1; cases r2
    refine ⟨_, _, rfl, rfl, _, rfl, ?_⟩
    cases hf : f i j with
    | true =>
      refine hc σ Hd2 H2 _ (s.grow (g1.trans g2)) g2.s pe2 (by omega) (x.grow (g1.trans g2)) _ fun v3 d3 Hd3 H3 g3 pe3 e3 r3 => ?_
      subst e3; cases r3
      exact ⟨_, _, rfl, rfl, q _ _ Hd3 H3 ((g1.trans g2).trans g3) (PenO.more pe3 (by omega)) (by rw [hf]; rfl) (.bl _)⟩
    | false => exact q _ _ Hd2 H2 (g1.trans g2) (PenO.more pe2 (by omega)) (by rw [hf]; rfl) (.bl _)
/-! isinstance -/
def isiB (d : D) (T : String) : Bool := d.ty == T || (d.ty == "bool" && T == "int")
def isiTys : List String := ["str", "int", "bool", "tuple", "list", "dict"]
theorem kit_tab : ∀ t ∈ ["NoneType", "bool", "int", "str", "list", "tuple", "dict"], ∀ T ∈ isiTys, kitB t T = some (t == T || (t == "bool" && T == "int")) := by decide +kernel
theorem kit_isi {d : D} {T : String} (hb : d.builtin = true) (hT : T ∈ isiTys) : kitB d.ty T = some (isiB d T) := by
  refine kit_tab d.ty ?_ T hT
  cases d with
  | obj _ _ _ => cases hb
  | exc => cases hb
  | ptr => cases hb
  | err => cases hb
  | _ => simp [D.ty]
theorem ev_isi_ {T : String} {d : D} (h : Ev c te Γ m (· = d)) (hb : d.builtin = true) (hT : T ∈ isiTys := by decide) : Ev c (tCB (rIsi c.K) (tCons te (tCons (tC (.ty T)) tNil))) Γ m (· = .bl (isiB d T)) := ev_isi h hb (kit_isi hb hT)
theorem kitL_isi {d : D} : ∀ {Ts : List String}, d.builtin = true → (∀ T ∈ Ts, T ∈ isiTys) → kitL d.ty Ts = some (Ts.any (isiB d))
  | [], _, _ => rfl
  | T :: Ts, hb, h => by
    unfold kitL
    rw [kit_isi hb (h T List.mem_cons_self), Option.bind_some, List.any_cons]
    cases isiB d T with
    | true => rfl
    | false => exact kitL_isi hb fun U hU => h U (List.mem_cons_of_mem _ hU)
theorem ev_isi2 {T1 T2 : String} {d : D} (h : Ev c te Γ m (· = d)) (hb : d.builtin = true) (h1 : T1 ∈ isiTys := by decide) (h2 : T2 ∈ isiTys := by decide) :
    Ev c (tCB (rIsiT c.K) (tCons te (tCons (tTup (tCons (tC (.ty T1)) (tCons (tC (.ty T2)) tNil))) tNil))) Γ m (· = .bl (isiB d T1 || isiB d T2)) := by
  have q := ev_isiT (c := c) [T1, T2] h hb (kitL_isi hb (by intro T hT; simp only [List.mem_cons, List.not_mem_nil, or_false] at hT; rcases hT with rfl | rfl <;> assumption)) (show 2 ≤ 1000 by decide)
  refine Ev.to q ?_
  simp
/-! good values -/
abbrev GV (d : D) : Prop := GD 64 10000000 d
theorem GV.bi {d : D} (h : GV d) : d.builtin = true := by cases d <;> first | rfl | cases h.pl
theorem GV.len {z : Str} (h : GV (.str z)) : z.length ≤ 1000000 := by have := h.strLen; omega
theorem GV.it {ds : List D} (h : GV (.tup ds)) : ∀ d ∈ ds, GV d := fun d hd => (h.tups.mem d hd).mono (by decide) (Nat.le_refl _)
theorem GV.li {ds : List D} (h : GV (.lst ds)) : ∀ d ∈ ds, GV d := fun d hd => (h.lsts.mem d hd).mono (by decide) (Nat.le_refl _)
theorem GV.its {d : D} {ds : List D} (h : GV d) (e : d.its = some ds) : ∀ x ∈ ds, GV x := by
  cases d with
  | lst es => cases e; exact h.li
  | tup es => cases e; exact h.it
  | _ => cases e
theorem ws_len : ∀ ds : List D, 2 * ds.length ≤ D.ws ds
  | [] => Nat.le_refl _
  | d :: ds => by have := ws_len ds; show 2 * (ds.length + 1) ≤ D.w d + 2 + D.ws ds; omega
theorem GV.seq {d : D} (h : GV d) (e : d.its.isSome = true ∨ (∃ z, d = .str z)) : d.seq = true := by
  rcases e with e | ⟨z, rfl⟩
  · cases d <;> first | rfl | cases e
  · exact decide_eq_true h.len
theorem GV.cut {d : D} (lo hi : Option Int) (h : GV d) (e : d.its.isSome = true) : GV (d.cut lo hi) := by
  cases d with
  | tup ds => exact ⟨(h.tups.cut lo hi).pl, (h.tups.cut lo hi).lay, (h.tups.cut lo hi).sh, by have := (h.tups.cut lo hi).dep; show _ + 1 ≤ 64; omega, by
      have e1 : D.ws (cutD ds lo hi) ≤ D.ws ds := ((GDs.cut (k := 64) (n := D.ws ds) lo hi ⟨h.tups.pl, h.tups.lay, h.tups.sh, by have := h.tups.dep; omega, Nat.le_refl _⟩)).w
      have e2 : D.ws ds + 3 ≤ 10000000 := h.w
      show D.ws (cutD ds lo hi) + 3 ≤ 10000000; omega⟩
  | lst ds => exact ⟨(h.lsts.cut lo hi).pl, (h.lsts.cut lo hi).lay, (h.lsts.cut lo hi).sh, by have := (h.lsts.cut lo hi).dep; show _ + 1 ≤ 64; omega, by
      have e1 : D.ws (cutD ds lo hi) ≤ D.ws ds := ((GDs.cut (k := 64) (n := D.ws ds) lo hi ⟨h.lsts.pl, h.lsts.lay, h.lsts.sh, by have := h.lsts.dep; omega, Nat.le_refl _⟩)).w
      have e2 : D.ws ds + 3 ≤ 10000000 := h.w
      show D.ws (cutD ds lo hi) + 3 ≤ 10000000; omega⟩
  | _ => cases e
theorem on_len_ {d : D} {k : Nat} (h : d.len = some k) : OpN c (fun xs H Q => ∃ x n, xs = [x] ∧ LenV c.K x H n ∧ Q (.int n) H) [d] (· = .int k) := on_len h
end
end DL
set_option maxRecDepth 100000
set_option maxHeartbeats 4000000
/-! DLk: the rules with the written part as a letter (so that they stand within comprehensions too). -/
namespace DL
open PySem L2 PyProof.Rows
section
variable {X : Cx} {K : PySem.W.Frag}
theorem op_addUk (h : X.K = K := by rfl) : OpR X (binaryOp .Add) (rAddU K) := h ▸ op_addU
theorem op_mulUk (h : X.K = K := by rfl) : OpR X (binaryOp .Mult) (rMulU K) := h ▸ op_mulU
theorem op_inUk (h : X.K = K := by rfl) : OpR X (compareOp .In) (rInU K) := h ▸ op_inU
theorem op_ninUk (h : X.K = K := by rfl) : OpR X (compareOp .NotIn) (rNinU K) := h ▸ op_ninU
theorem op_eqDk (hu : X.A.units + 64 < cLine) (h : X.K = K := by rfl) : OpR X (compareOp .Eq) (rEqD K) := h ▸ op_eqD hu
theorem op_neDk (hu : X.A.units + 64 < cLine) (h : X.K = K := by rfl) : OpR X (compareOp .NotEq) (rNeD K) := h ▸ op_neD hu
theorem ix_seqk (h : X.K = K := by rfl) : IxR X (rIx K) := h ▸ ix_seq
theorem sl_Uk (h : X.K = K := by rfl) : SlR X (rSlU K) := h ▸ sl_U
theorem call_lenk (h : X.K = K := by rfl) : CallR X (.builtin "len") (fun xs H Q => ∃ x n, xs = [x] ∧ LenV K x H n ∧ Q (.int n) H) := h ▸ call_len
theorem call_isik (h : X.K = K := by rfl) : CallR X (.builtin "isinstance") (rIsi K) := h ▸ call_isi
theorem call_isiTk (h : X.K = K := by rfl) : CallR X (.builtin "isinstance") (rIsiT K) := h ▸ call_isiT
theorem cr_allk (hc : X.calm = true) (h : X.K = K := by rfl) : CallR X (.builtin "all") (rAll K) := h ▸ cr_all hc
theorem cr_anyk (hc : X.calm = true) (h : X.K = K := by rfl) : CallR X (.builtin "any") (rAny K) := h ▸ cr_any hc
theorem cr_sumk (hc : X.calm = true) (h : X.K = K := by rfl) : CallR X (.builtin "sum") (rSum K) := h ▸ cr_sum hc
theorem cr_sortedSk (h : X.K = K := by rfl) : CallR X (.builtin "sorted") (rSortedS K) := h ▸ cr_sortedS
theorem call_reprk (ng : NoG X.A) (hu : X.A.units + 66 < cLine) (h : X.K = K := by rfl) : CallR X (.builtin "repr") (rReprD K) := h ▸ call_reprD ng hu
theorem call_list_ofk (h : X.K = K := by rfl) : CallR X (.type "list") (fun xs H Q => ∃ p ys, xs = [.ref p] ∧ (SqL K H p ys ∨ SqT K H p ys) ∧ ∀ l, H l = none → Q (.ref l) (upd H l (.lst ys))) := h ▸ call_list_of
theorem call_tuple_ofk (h : X.K = K := by rfl) : CallR X (.type "tuple") (fun xs H Q => ∃ a ys, xs = [.ref a] ∧ ((SqL K H a ys ∧ ∀ l, H l = none → Q (.ref l) (upd H l (.tup ys))) ∨ (SqT K H a ys ∧ Q (.ref a) H))) := h ▸ call_tuple_of
theorem pg_tupk {pos : Pos} {es : List Expr} {k n : Nat} {t : TGs} (hc : X.calm = true) (hp : PGs X es t) (h : X.K = K := by rfl) (hn : (assignEach es X.env).length = n := by rfl) (hst : (assignEach es X.env).findIdx? (·.1) = none := by rfl) : PG X (.Tuple es k pos) (gTup K n t) := h ▸ pg_tup hc hp hn hst
theorem pg_seqk {pos : Pos} {es : List Expr} {k n : Nat} {t : TGs} (hc : X.calm = true) (hp : PGs X es t) (h : X.K = K := by rfl) (hn : (assignEach es X.env).length = n := by rfl) (hst : (assignEach es X.env).findIdx? (·.1) = none := by rfl) : PG X (.Tuple es k pos) (gSeq K n t) := h ▸ pg_seq hc hp hn hst
theorem pi_seqk {tg l : Expr} {tl : TE} (hl : PE X l tl) (h : X.K = K := by rfl) : PI X tg l (iSeq K tl) := h ▸ pi_seq hl
end
section
variable {c : Ct} {Γ : List Sk} {m : Nat} {ta : TA}
/-- zip of two lists, of two tuples -/
theorem itd_zipT {K : PySem.W.Frag} {Hd : Hp} {a b : Addr} {xs ys : List V} {ds es : List D} (h : SqT K Hd a xs) (r : Reps K Hd xs ds) (h2 : SqT K Hd b ys) (r2 : Reps K Hd ys es) : ItD K Hd (RZ.ItzT K a b) (zipD ds es) := fun Hd' H' e1 e2 => by
  have h' : SqT K H' a xs := same_sqt (e1.trans e2) h
  have h2' : SqT K H' b ys := same_sqt (e1.trans e2) h2
  have hl := r.length
  have hl2 := r2.length
  have hz : (zipD ds es).length = min ds.length es.length := by simp [zipD]
  refine ⟨fun i hi => ⟨xs, ys, xs[i]'(by omega), ys[i]'(by omega), h', h2', List.getElem?_eq_getElem _, List.getElem?_eq_getElem _⟩, fun i hi => ⟨xs, ys, h', h2', by omega⟩, fun i v H'' y d hd => ?_⟩
  obtain ⟨T, x, x2, e, hT, eH, y, y2⟩ := y
  subst e; subst eH
  obtain ⟨u1, u2, q1, p1, q2⟩ := zipD_get hd
  subst q2
  obtain ⟨w, q3, q4⟩ := (r.mono e1).get q1
  obtain ⟨w2, p3, p4⟩ := (r2.mono e1).get p1
  have q := y xs h'
  have q' := y2 ys h2'
  rw [q] at q3; cases q3
  rw [q'] at p3; cases p3
  have g := Grow.new (p := none) (o := HO.tup [x, x2]) e2 hT
  exact ⟨_, g, .tup (SqT.of upd_same) (.cons (q4.mono g.d) (.cons (p4.mono g.d) .nil))⟩
theorem ei_zipL_ {ds es : List D} (h : EvA c ta Γ m (· = [.lst ds, .lst es])) : EvI c (RZ.iZipA c.K ta) Γ m (· = zipD ds es) := fun σ Hd H n s sa pe l x R q =>
  h σ Hd H n s sa pe l x _ fun vs as Hd1 H1 g1 pe1 e r1 => by
    subst e
    rcases r1 with _ | ⟨a, _ | ⟨a', _ | _⟩⟩
    cases a with | lst h1 r => cases a' with | lst h2 r2 => exact ⟨_, _, _, _, rfl, .inl ⟨SqL.of (g1.s _ _ h1), SqL.of (g1.s _ _ h2), q _ _ Hd1 H1 g1 pe1 rfl (itd_zip h1 r h2 r2)⟩⟩
theorem ei_zipT_ {ds es : List D} (h : EvA c ta Γ m (· = [.tup ds, .tup es])) : EvI c (RZ.iZipA c.K ta) Γ m (· = zipD ds es) := fun σ Hd H n s sa pe l x R q =>
  h σ Hd H n s sa pe l x _ fun vs as Hd1 H1 g1 pe1 e r1 => by
    subst e
    rcases r1 with _ | ⟨a, _ | ⟨a', _ | _⟩⟩
    cases a with | tup h1 r => cases a' with | tup h2 r2 => exact ⟨_, _, _, _, rfl, .inr ⟨same_sqt g1.s h1, same_sqt g1.s h2, q _ _ Hd1 H1 g1 pe1 rfl (itd_zipT h1 r h2 r2)⟩⟩
end
end DL
set_option maxRecDepth 100000
set_option maxHeartbeats 4000000
/-! DLw: terms with what is to be shown of them (weakest promises): WE, WA, WT, WO, WI, WG, WM, WS. -/
namespace DL
open PySem L2 PyProof.Rows
abbrev Xq := Addr → List (Str × D) → Prop
abbrev noX : Xq := fun _ _ => False
structure WE (K : PySem.W.Frag) (E : XK) where
  t : TE
  m : Nat
  w : Xq → List Sk → (D → Prop) → Prop
  ok : ∀ {p : Pn} {χ : Xq} {Γ : List Sk} {φ : D → Prop}, w χ Γ φ → Ev ⟨K, p, E, χ⟩ t Γ m φ
structure WA (K : PySem.W.Frag) (E : XK) where
  t : TA
  m : Nat
  w : Xq → List Sk → (List D → Prop) → Prop
  ok : ∀ {p : Pn} {χ : Xq} {Γ : List Sk} {φ : List D → Prop}, w χ Γ φ → EvA ⟨K, p, E, χ⟩ t Γ m φ
structure WT (K : PySem.W.Frag) (E : XK) where
  t : TT
  m : Nat
  w : Xq → List Sk → (Bool → Prop) → Prop
  ok : ∀ {p : Pn} {χ : Xq} {Γ : List Sk} {φ : Bool → Prop}, w χ Γ φ → EvB ⟨K, p, E, χ⟩ t Γ m φ
structure WO (K : PySem.W.Frag) (E : XK) where
  t : TO
  m : Nat
  w : Xq → List Sk → (Option Int → Prop) → Prop
  ok : ∀ {p : Pn} {χ : Xq} {Γ : List Sk} {φ : Option Int → Prop}, w χ Γ φ → EvO ⟨K, p, E, χ⟩ t Γ m φ
structure WI (K : PySem.W.Frag) (E : XK) where
  t : TI
  m : Nat
  w : Xq → List Sk → (List D → Prop) → Prop
  ok : ∀ {p : Pn} {χ : Xq} {Γ : List Sk} {φ : List D → Prop}, w χ Γ φ → EvI ⟨K, p, E, χ⟩ t Γ m φ
structure WG (K : PySem.W.Frag) where
  t : TG
  is : List Nat
  ps : D → Option (List (Nat × D))
  sub : ∀ {d l}, ps d = some l → ∀ j ∈ l.map (·.1), j ∈ is
  ok : ∀ {p : Pn} {E : XK} {χ : Xq} {d l}, ps d = some l → TgD ⟨K, p, E, χ⟩ t d l
structure WGs (K : PySem.W.Frag) where
  t : TGs
  is : List Nat
  n : Nat
  ps : List D → Option (List (Nat × D))
  sub : ∀ {d l}, ps d = some l → ∀ j ∈ l.map (·.1), j ∈ is
  len : ∀ {d l}, ps d = some l → d.length = n
  ok : ∀ {p : Pn} {E : XK} {χ : Xq} {d l}, ps d = some l → TgDs ⟨K, p, E, χ⟩ t d l
structure WM (K : PySem.W.Frag) (E : XK) where
  t : TE
  m : Nat
  w : Xq → List Sk → (D → List Sk → Prop) → Prop
  ok : ∀ {p : Pn} {χ : Xq} {Γ : List Sk} {φ : D → List Sk → Prop}, w χ Γ φ → EvM ⟨K, p, E, χ⟩ t Γ m φ
structure WS (K : PySem.W.Frag) (E : XK) where
  t : TS
  m : Nat
  w : Xq → List Sk → Wh → Prop
  ok : ∀ {p : Pn} {χ : Xq} {Γ : List Sk} {W : Wh}, w χ Γ W → Wp ⟨K, p, E, χ⟩ t Γ m W
structure O2 (K : PySem.W.Frag) where
  r : R2
  w : D → D → (D → Prop) → Prop
  ok : ∀ {p : Pn} {E : XK} {χ : Xq} {a b : D} {φ : D → Prop}, w a b φ → Op2 ⟨K, p, E, χ⟩ r a b φ
structure ON (K : PySem.W.Frag) where
  r : List V → Hp → VK → Prop
  w : List D → (D → Prop) → Prop
  ok : ∀ {p : Pn} {E : XK} {χ : Xq} {as : List D} {φ : D → Prop}, w as φ → OpN ⟨K, p, E, χ⟩ r as φ

theorem Op2.to {c : Ct} {r : R2} {a b d : D} {φ : D → Prop} (h : Op2 c r a b (· = d)) (f : φ d) : Op2 c r a b φ := fun x y Hd H s ra rb Q q => h x y Hd H s ra rb Q fun v d' Hd' H' g e r' => q v d' Hd' H' g (by rw [e]; exact f) r'
theorem OpN.to {c : Ct} {r : List V → Hp → VK → Prop} {as : List D} {d : D} {φ : D → Prop} (h : OpN c r as (· = d)) (f : φ d) : OpN c r as φ := fun x Hd H s ra Q q => h x Hd H s ra Q fun v d' Hd' H' g e r' => q v d' Hd' H' g (by rw [e]; exact f) r'
theorem Ev.fin {c : Ct} {te : TE} {Γ : List Sk} {m : Nat} {d : D} {φ : D → Prop} (h : Ev c te Γ m (· = d)) (f : φ d) : Ev c te Γ m φ := h.imp fun _ e => by rw [e]; exact f
section
variable {K : PySem.W.Frag} {E : XK}
/-! ### operations by values -/
def O2.int (g : Int → Int → Int) : O2 K := ⟨rI0 fun i j => .int (g i j), fun a b φ => match a, b with | .int i, .int j => φ (.int (g i j)) | _, _ => False, fun {p E χ a b φ} h => by
  split at h
  · exact o2_I.to h
  · exact h.elim⟩
def O2.cmp (g : Int → Int → Bool) : O2 K := ⟨rI0 fun i j => .bl (g i j), fun a b φ => match a, b with | .int i, .int j => φ (.bl (g i j)) | _, _ => False, fun {p E χ a b φ} h => by
  split at h
  · exact o2_B.to h
  · exact h.elim⟩
def O2.intC (C : Int → Int → Prop) (g : Int → Int → Int) : O2 K := ⟨rI C fun i j => .int (g i j), fun a b φ => match a, b with | .int i, .int j => C i j ∧ φ (.int (g i j)) | _, _ => False, fun {p E χ a b φ} h => by
  split at h
  · exact (o2_IC h.1).to h.2
  · exact h.elim⟩
def O2.add : O2 K := ⟨rAddU K, fun a b φ => match a, b with
  | .int i, .int j => φ (.int (i + j))
  | .str i, .str j => i.length + j.length ≤ 1000000 ∧ φ (.str (i ++ j))
  | .tup i, .tup j => i.length + j.length ≤ 1000000 ∧ φ (.tup (i ++ j))
  | .lst i, .lst j => i.length + j.length ≤ 1000000 ∧ φ (.lst (i ++ j))
  | _, _ => False, fun {p E χ a b φ} h => by
  split at h
  · exact o2_addI.to h
  · exact (o2_addS h.1).to h.2
  · exact (o2_addT h.1).to h.2
  · exact (o2_addL h.1).to h.2
  · exact h.elim⟩
def O2.mul : O2 K := ⟨rMulU K, fun a b φ => match a, b with
  | .int i, .int j => CMul i j ∧ φ (.int (i * j))
  | .str z, .int n => (0 ≤ n ∧ n ≤ 1000 ∧ z.length ≤ 1000) ∧ φ (.str (Txt.mul z n))
  | .lst z, .int n => (0 ≤ n ∧ n ≤ 1000 ∧ z.length ≤ 1000) ∧ φ (.lst (List.replicate n.toNat z).flatten)
  | _, _ => False, fun {p E χ a b φ} h => by
  split at h
  · exact (o2_mulI h.1).to h.2
  · exact (o2_mulS h.1).to h.2
  · exact (o2_mulL h.1).to h.2
  · exact h.elim⟩
def O2.eq : O2 K := ⟨rEqD K, fun a b φ => a.ok = true ∧ b.ok = true ∧ φ (.bl (a.eqv b)), fun {p E χ a b φ} h => (o2_eq h.1 h.2.1).to h.2.2⟩
def O2.ne : O2 K := ⟨rNeD K, fun a b φ => a.ok = true ∧ b.ok = true ∧ φ (.bl (!a.eqv b)), fun {p E χ a b φ} h => (o2_ne h.1 h.2.1).to h.2.2⟩
def O2.isU : O2 K := ⟨rIsU, fun a b φ => match b with | .non => φ (.bl a.isNon) | .bl k => φ (.bl (a.isBl k)) | _ => False, fun {p E χ a b φ} h => by
  split at h
  · exact o2_isN.to h
  · exact o2_isB.to h
  · exact h.elim⟩
def O2.notU : O2 K := ⟨fun x y H Q => y = .non ∧ Q (.bl (!decide (x = .non))) H, fun a b φ => match b with | .non => φ (.bl (!a.isNon)) | _ => False, fun {p E χ a b φ} h => by
  split at h
  · exact o2_notN.to h
  · exact h.elim⟩
/-- the sign of a text of one sign -/
def D.sign : D → Option Nat
  | .str z => match z.cps.toList with | [k] => some k | _ => none
  | _ => none
theorem D.sign_of {d : D} {k : Nat} (h : d.sign = some k) : d = .str ⟨#[k]⟩ := by
  cases d with
  | str z =>
    obtain ⟨y⟩ := z
    unfold D.sign at h
    have h' : (match y.toList with | [k] => some k | _ => none) = some k := h
    split at h'
    · rename_i k' e
      cases h'
      have : y = #[k] := by rw [← Array.toList_inj]; exact e
      rw [this]
    · cases h'
  | _ => cases h
@[simp] theorem D.sign_one (k : Nat) : (D.str ⟨#[k]⟩).sign = some k := rfl
def O2.inn : O2 K := ⟨rInU K, fun a b φ => match b with
  | .tup ds => a.flat = true ∧ ds.all D.flat = true ∧ φ (.bl (inD a ds))
  | .lst ds => a.flat = true ∧ ds.all D.flat = true ∧ φ (.bl (inD a ds))
  | .str z => ∃ k, a.sign = some k ∧ φ (.bl (decide (k ∈ z.cps.toList)))
  | _ => False, fun {p E χ a b φ} h => by
  split at h
  · exact (o2_inT h.1 h.2.1).to h.2.2
  · exact (o2_inL h.1 h.2.1).to h.2.2
  · obtain ⟨k, e, h⟩ := h
    rw [D.sign_of e]; exact o2_inS.to h
  · exact h.elim⟩
def O2.nin : O2 K := ⟨rNinU K, fun a b φ => match b with
  | .tup ds => a.flat = true ∧ ds.all D.flat = true ∧ φ (.bl (!inD a ds))
  | .lst ds => a.flat = true ∧ ds.all D.flat = true ∧ φ (.bl (!inD a ds))
  | .str z => ∃ k, a.sign = some k ∧ φ (.bl (!decide (k ∈ z.cps.toList)))
  | _ => False, fun {p E χ a b φ} h => by
  split at h
  · exact (o2_ninT h.1 h.2.1).to h.2.2
  · exact (o2_ninL h.1 h.2.1).to h.2.2
  · obtain ⟨k, e, h⟩ := h
    rw [D.sign_of e]; exact o2_ninS.to h
  · exact h.elim⟩
def O2.ix : O2 K := ⟨rIx K, fun a b φ => match a, b with
  | .lst ds, .int i => ∃ d, atI ds i = some d ∧ φ d
  | .tup ds, .int i => ∃ d, atI ds i = some d ∧ φ d
  | .str z, .int i => ∃ k, atI z.cps.toList i = some k ∧ z.length ≤ 1000000 ∧ φ (.str ⟨#[k]⟩)
  | _, _ => False, fun {p E χ a b φ} h => by
  split at h
  · obtain ⟨d, e, h⟩ := h; exact (o2_ixL e).to h
  · obtain ⟨d, e, h⟩ := h; exact (o2_ixT e).to h
  · obtain ⟨k, e, e2, h⟩ := h; exact (o2_ixS e e2).to h
  · exact h.elim⟩
/-! ### built-ins by values -/
def ON.len : ON K := ⟨fun xs H Q => ∃ x n, xs = [x] ∧ LenV K x H n ∧ Q (.int n) H, fun as φ => match as with | [d] => ∃ k : Nat, d.len = some k ∧ φ (.int (k : Int)) | _ => False, fun {p E χ as φ} h => by
  split at h
  · obtain ⟨k, e, h⟩ := h; exact (on_len e).to h
  · exact h.elim⟩
def ON.list : ON K := ⟨fun xs H Q => ∃ p ys, xs = [.ref p] ∧ (SqL K H p ys ∨ SqT K H p ys) ∧ ∀ l, H l = none → Q (.ref l) (upd H l (.lst ys)), fun as φ => match as with | [d] => ∃ ds, d.its = some ds ∧ φ (.lst ds) | _ => False, fun {p E χ as φ} h => by
  split at h
  · obtain ⟨k, e, h⟩ := h; exact (on_list e).to h
  · exact h.elim⟩
def ON.tuple : ON K := ⟨fun xs H Q => ∃ a ys, xs = [.ref a] ∧ ((SqL K H a ys ∧ ∀ l, H l = none → Q (.ref l) (upd H l (.tup ys))) ∨ (SqT K H a ys ∧ Q (.ref a) H)), fun as φ => match as with | [d] => ∃ ds, d.its = some ds ∧ φ (.tup ds) | _ => False, fun {p E χ as φ} h => by
  split at h
  · obtain ⟨k, e, h⟩ := h; exact (on_tuple e).to h
  · exact h.elim⟩
def D.isB : D → Bool
  | .bl _ => true | _ => false
def D.tt : D → Bool
  | .bl b => b | _ => false
def D.isI : D → Bool
  | .int _ => true | _ => false
def D.toI : D → Int
  | .int b => b | _ => 0
def D.isS : D → Bool
  | .str _ => true | _ => false
def D.toS : D → Str
  | .str b => b | _ => ""
theorem isB_map : ∀ {ds : List D}, (ds.all D.isB = true) → ds = (ds.map D.tt).map D.bl
  | [], _ => rfl
  | d :: ds, h => by
    simp only [List.all_cons, Bool.and_eq_true] at h
    cases d with
    | bl b => simp only [List.map_cons, D.tt]; rw [← isB_map h.2]
    | _ => cases h.1
theorem isI_map : ∀ {ds : List D}, (ds.all D.isI = true) → ds = (ds.map D.toI).map D.int
  | [], _ => rfl
  | d :: ds, h => by
    simp only [List.all_cons, Bool.and_eq_true] at h
    cases d with
    | int b => simp only [List.map_cons, D.toI]; rw [← isI_map h.2]
    | _ => cases h.1
theorem isS_map : ∀ {ds : List D}, (ds.all D.isS = true) → ds = (ds.map D.toS).map D.str
  | [], _ => rfl
  | d :: ds, h => by
    simp only [List.all_cons, Bool.and_eq_true] at h
    cases d with
    | str b => simp only [List.map_cons, D.toS]; rw [← isS_map h.2]
    | _ => cases h.1
def ON.all : ON K := ⟨rAll K, fun as φ => match as with | [.lst ds] => ds.all D.isB = true ∧ φ (.bl (ds.all D.tt)) | _ => False, fun {p E χ as φ} h => by
  split at h
  · rename_i ds
    have e := on_all (c := ⟨K, p, E, χ⟩) (bs := ds.map D.tt)
    rw [← isB_map h.1] at e
    refine e.to ?_
    rw [List.all_map]; exact h.2
  · exact h.elim⟩
def ON.any : ON K := ⟨rAny K, fun as φ => match as with | [.lst ds] => ds.all D.isB = true ∧ φ (.bl (ds.any D.tt)) | _ => False, fun {p E χ as φ} h => by
  split at h
  · rename_i ds
    have e := on_any (c := ⟨K, p, E, χ⟩) (bs := ds.map D.tt)
    rw [← isB_map h.1] at e
    refine e.to ?_
    rw [List.any_map]; exact h.2
  · exact h.elim⟩
def ON.sum : ON K := ⟨rSum K, fun as φ => match as with | [.lst ds] => ds.all D.isI = true ∧ φ (.int (ds.map D.toI).sum) | _ => False, fun {p E χ as φ} h => by
  split at h
  · rename_i ds
    have e := on_sum (c := ⟨K, p, E, χ⟩) (ns := ds.map D.toI)
    rw [← isI_map h.1] at e
    exact e.to h.2
  · exact h.elim⟩
def ON.sortedS : ON K := ⟨rSortedS K, fun as φ => match as with | [.lst ds] => ds.all D.isS = true ∧ ds.length < 64 ∧ ∀ ys : List Str, ys.Perm (ds.map D.toS) → PyProof.Rows.sortedS ys = true → φ (.lst (ys.map D.str)) | _ => False, fun {p E χ as φ} h => by
  split at h
  · rename_i ds
    have e := on_sortedS (c := ⟨K, p, E, χ⟩) (ss := ds.map D.toS) (by rw [List.length_map]; exact h.2.1)
    rw [← isS_map h.1] at e
    exact fun x Hd H s ra Q q => e x Hd H s ra Q fun v d' Hd' H' g ⟨ys, e1, e2, e3⟩ r' => q v d' Hd' H' g (by rw [e3]; exact h.2.2 ys e1 e2) r'
  · exact h.elim⟩
def ON.min2 : ON K := ⟨fun xs H Q => ∃ i j, xs = [.int i, .int j] ∧ Q (.int (if j < i then j else i)) H, fun as φ => match as with | [.int i, .int j] => φ (.int (if j < i then j else i)) | _ => False, fun {p E χ as φ} h => by
  split at h
  · exact on_min2.to h
  · exact h.elim⟩
def ON.max2 : ON K := ⟨fun xs H Q => ∃ i j, xs = [.int i, .int j] ∧ Q (.int (if j > i then j else i)) H, fun as φ => match as with | [.int i, .int j] => φ (.int (if j > i then j else i)) | _ => False, fun {p E χ as φ} h => by
  split at h
  · exact on_max2.to h
  · exact h.elim⟩
def ON.int1 : ON K := ⟨fun xs H Q => (∃ i, xs = [.int i] ∧ Q (.int i) H) ∨ ∃ k, xs = [.bl k] ∧ Q (.int (if k then 1 else 0)) H, fun as φ => match as with | [.int i] => φ (.int i) | _ => False, fun {p E χ as φ} h => by
  split at h
  · exact on_int.to h
  · exact h.elim⟩
def ON.strI : ON K := ⟨fun xs H Q => ∃ i, xs = [.int i] ∧ i.natAbs.log2 < 1920 ∧ Q (.str (toString i)) H, fun as φ => match as with | [.int i] => i.natAbs.log2 < 1920 ∧ φ (.str (toString i)) | _ => False, fun {p E χ as φ} h => by
  split at h
  · exact (on_strI h.1).to h.2
  · exact h.elim⟩
def ON.repr : ON K := ⟨rReprD K, fun as φ => match as with | [d] => GD 64 16000000 d ∧ φ (.str d.py.shown) | _ => False, fun {p E χ as φ} h => by
  split at h
  · exact (on_repr h.1).to h.2
  · exact h.elim⟩
/-! ### expressions -/
def WE.var (i : Nat) : WE K E := ⟨tVar i, 0, fun _ Γ φ => match Γ[i]? with | some (.dat d) => φ d | _ => False, fun {p χ Γ φ} h => by
  split at h
  · rename_i d e; exact (ev_var e).fin h
  · exact h.elim⟩
def WE.int (i : Int) : WE K E := ⟨tC (.int i), 0, fun _ Γ φ => φ (.int i), fun {p χ Γ φ} h => ev_int.fin h⟩
def WE.bl (i : Bool) : WE K E := ⟨tC (.bl i), 0, fun _ Γ φ => φ (.bl i), fun {p χ Γ φ} h => ev_bl.fin h⟩
def WE.str (i : Str) : WE K E := ⟨tC (.str i), 0, fun _ Γ φ => φ (.str i), fun {p χ Γ φ} h => ev_str.fin h⟩
def WE.non : WE K E := ⟨tC .non, 0, fun _ Γ φ => φ .non, fun {p χ Γ φ} h => ev_non.fin h⟩
/-- a tuple of the module -/
def WE.ktup {a : Addr} {xs : List V} (ds : List D) (h : ∀ H, SqT K H a xs) (r : ∀ H, Reps K H xs ds) : WE K E := ⟨tC (.ref a), 0, fun _ Γ φ => φ (.tup ds), fun {p χ Γ φ} f => (ev_ktup (c := ⟨K, p, E, χ⟩) h r).fin f⟩
def WE.op (o : O2 K) (a b : WE K E) : WE K E := ⟨tOp o.r a.t b.t, a.m + b.m, fun χ Γ φ => a.w χ Γ fun x => b.w χ Γ fun y => o.w x y φ, fun {p χ Γ φ} h σ Hd H n s sa pe l x Q q =>
  a.ok h σ Hd H n s sa pe (by omega) x _ fun v d Hd1 H1 g1 pe1 f1 r1 => b.ok f1 σ Hd1 H1 (n + a.m) (s.grow g1) g1.s pe1 (by omega) (x.grow g1) _ fun w2 e Hd2 H2 g2 pe2 f2 r2 =>
    o.ok (p := p) (E := E) (χ := χ) f2 v w2 Hd2 H2 g2.s (r1.mono g2.d) r2 Q fun z d3 Hd3 H3 g3 f3 r3 => q z d3 Hd3 H3 ((g1.trans g2).trans g3.up) (by rw [← Nat.add_assoc]; exact pe2.grow g3) f3 r3⟩
def WE.neg (a : WE K E) : WE K E := ⟨tUn (rU fun i => .int (-i)) a.t, a.m, fun χ Γ φ => a.w χ Γ fun d => ∃ i, d = .int i ∧ φ (.int (-i)), fun {p χ Γ φ} h σ Hd H n s sa pe l x Q q =>
  a.ok h σ Hd H n s sa pe l x _ fun v d Hd1 H1 g1 pe1 ⟨i, e, f⟩ r1 => by subst e; cases r1; exact ⟨i, rfl, q _ _ Hd1 H1 g1 pe1 f (.int _)⟩⟩
/-- a < b < c of whole numbers -/
def WE.chain (f g : Int → Int → Bool) (a b d : WE K E) : WE K E := ⟨tChain (rI0 fun i j => V.bl (f i j)) (rI0 fun i j => V.bl (g i j)) a.t b.t d.t, a.m + b.m + d.m,
  fun χ Γ φ => a.w χ Γ fun x => b.w χ Γ fun y => ∃ i j, x = .int i ∧ y = .int j ∧ (f i j = true → d.w χ Γ fun z => ∃ k, z = .int k ∧ φ (.bl (g j k))) ∧ (f i j = false → φ (.bl false)), fun {p χ Γ φ} h σ Hd H n s sa pe l x Q q =>
  a.ok h σ Hd H n s sa pe (by omega) x _ fun v x1 Hd1 H1 g1 pe1 f1 r1 => b.ok f1 σ Hd1 H1 _ (s.grow g1) g1.s pe1 (by omega) (x.grow g1) _ fun v2 d2 Hd2 H2 g2 pe2 ⟨i, j, e, e2, hT, hF⟩ r2 => by
    subst e; subst e2
    cases r1; cases r2
    refine ⟨_, _, rfl, rfl, _, rfl, ?_⟩
    cases hf : f i j with
    | true =>
      refine d.ok (hT hf) σ Hd2 H2 _ (s.grow (g1.trans g2)) g2.s pe2 (by show n + a.m + b.m + d.m ≤ LIM; omega) (x.grow (g1.trans g2)) _ fun v3 d3 Hd3 H3 g3 pe3 ⟨k, e3, f3⟩ r3 => ?_
      subst e3; cases r3
      exact ⟨_, _, rfl, rfl, q _ _ Hd3 H3 ((g1.trans g2).trans g3) (PenO.more pe3 (by omega)) f3 (.bl _)⟩
    | false => exact q _ _ Hd2 H2 (g1.trans g2) (PenO.more pe2 (by omega)) (hF hf) (.bl _)⟩
def WA.nil : WA K E := ⟨tNil, 0, fun _ Γ φ => φ [], fun {p χ Γ φ} h => ea_nil.imp fun _ e => by rw [e]; exact h⟩
def WA.cons (a : WE K E) (r : WA K E) : WA K E := ⟨tCons a.t r.t, a.m + r.m, fun χ Γ φ => a.w χ Γ fun d => r.w χ Γ fun ds => φ (d :: ds), fun {p χ Γ φ} h σ Hd H n s sa pe l x Q q =>
  a.ok h σ Hd H n s sa pe (by omega) x _ fun v d Hd1 H1 g1 pe1 f1 r1 => r.ok f1 σ Hd1 H1 (n + a.m) (s.grow g1) g1.s pe1 (by omega) (x.grow g1) _ fun w2 b Hd2 H2 g2 pe2 f2 r2 =>
    q (v :: w2) (d :: b) Hd2 H2 (g1.trans g2) (by rw [← Nat.add_assoc]; exact pe2) f2 (.cons (r1.mono g2.d) r2)⟩
def WE.tup (a : WA K E) : WE K E := ⟨tTup a.t, a.m, fun χ Γ φ => a.w χ Γ fun ds => ds.length ≤ 1000 ∧ φ (.tup ds), fun {p χ Γ φ} h => (ev_tup (a.ok h) fun ds f => f.1).imp fun d ⟨ds, e, f⟩ => by rw [e]; exact f.2⟩
def WE.lst (a : WA K E) : WE K E := ⟨tLst a.t, a.m, fun χ Γ φ => a.w χ Γ fun ds => ds.length ≤ 1000 ∧ φ (.lst ds), fun {p χ Γ φ} h => (ev_lst (a.ok h) fun ds f => f.1).imp fun d ⟨ds, e, f⟩ => by rw [e]; exact f.2⟩
def WT.tst (a : WE K E) : WT K E := ⟨tTest a.t, a.m, fun χ Γ φ => a.w χ Γ fun d => ∃ b, d = .bl b ∧ φ b, fun {p χ Γ φ} h => eb_test (a.ok h)⟩
def WT.b (a : WE K E) : WT K E := ⟨tB a.t, a.m, fun χ Γ φ => a.w χ Γ fun d => ∃ b, d = .bl b ∧ φ b, fun {p χ Γ φ} h => eb_B (a.ok h)⟩
def WT.not (a : WT K E) : WT K E := ⟨tNot a.t, a.m, fun χ Γ φ => a.w χ Γ fun b => φ (!b), fun {p χ Γ φ} h => (eb_not (β1 := fun b => φ (!b)) (a.ok h)).imp fun b q => by simpa using q⟩
def WT.yes : WT K E := ⟨tYes, 0, fun χ Γ φ => φ true, fun {p χ Γ φ} h => eb_yes.imp fun b e => by rw [e]; exact h⟩
def WT.and (a b : WT K E) : WT K E := ⟨tAnd a.t b.t, a.m + b.m, fun χ Γ φ => a.w χ Γ fun k => (k = true → b.w χ Γ φ) ∧ (k = false → φ false), fun {p χ Γ φ} h => eb_and (a.ok h) (fun f => b.ok (f.1 rfl)) fun f => f.2 rfl⟩
def WT.or (a b : WT K E) : WT K E := ⟨tOr a.t b.t, a.m + b.m, fun χ Γ φ => a.w χ Γ fun k => (k = false → b.w χ Γ φ) ∧ (k = true → φ true), fun {p χ Γ φ} h => eb_or (a.ok h) (fun f => b.ok (f.1 rfl)) fun f => f.2 rfl⟩
def WE.andV (a b : WE K E) : WE K E := ⟨tAndV a.t b.t, a.m + b.m, fun χ Γ φ => a.w χ Γ fun d => ∃ k, d = .bl k ∧ (k = true → b.w χ Γ φ) ∧ (k = false → φ (.bl false)), fun {p χ Γ φ} h => ev_andV (β := fun k => (k = true → b.w χ Γ φ) ∧ (k = false → φ (.bl false))) (a.ok h) (fun f => b.ok (f.1 rfl)) fun f => f.2 rfl⟩
def WE.orV (a b : WE K E) : WE K E := ⟨tOrV a.t b.t, a.m + b.m, fun χ Γ φ => a.w χ Γ fun d => ∃ k, d = .bl k ∧ (k = false → b.w χ Γ φ) ∧ (k = true → φ (.bl true)), fun {p χ Γ φ} h => ev_orV (β := fun k => (k = false → b.w χ Γ φ) ∧ (k = true → φ (.bl true))) (a.ok h) (fun f => b.ok (f.1 rfl)) fun f => f.2 rfl⟩
def WE.notV (a : WE K E) : WE K E := ⟨tNotV a.t, a.m, fun χ Γ φ => a.w χ Γ fun d => ∃ k, d = .bl k ∧ φ (.bl (!k)), fun {p χ Γ φ} h σ Hd H n s sa pe l x Q q =>
  a.ok h σ Hd H n s sa pe l x _ fun v d Hd1 H1 g1 pe1 ⟨k, e, f⟩ r1 => by subst e; cases r1; exact ⟨k, rfl, q _ _ Hd1 H1 g1 pe1 f (.bl _)⟩⟩
def WE.ite (t : WT K E) (a b : WE K E) : WE K E := ⟨tIf t.t a.t b.t, t.m + (a.m + b.m), fun χ Γ φ => t.w χ Γ fun k => (k = true → a.w χ Γ φ) ∧ (k = false → b.w χ Γ φ), fun {p χ Γ φ} h => ev_if (t.ok h) (fun f => (a.ok (f.1 rfl)).more (by omega)) fun f => (b.ok (f.2 rfl)).more (by omega)⟩
def WO.none : WO K E := ⟨tNoPart, 0, fun χ Γ φ => φ .none, fun {p χ Γ φ} h σ Hd H n s sa pe l x Q q => q .none Hd H (.refl sa) pe h⟩
def WO.some (a : WE K E) : WO K E := ⟨tPart a.t, a.m, fun χ Γ φ => a.w χ Γ fun d => ∃ i, d = .int i ∧ φ (.some i), fun {p χ Γ φ} h σ Hd H n s sa pe l x Q q =>
  a.ok h σ Hd H n s sa pe l x _ fun v d Hd1 H1 g1 pe1 ⟨i, e, f⟩ r1 => by subst e; cases r1; exact ⟨i, rfl, q _ Hd1 H1 g1 pe1 f⟩⟩

theorem sl_op {Hd H : Hp} {v : V} {d : D} {lo hi : Option Int} (sa : Same Hd H) (r : Rep K Hd v d) (hs : d.seq = true) {Q : VK} (q : ∀ v Hd' H', Grow none Hd H Hd' H' → Rep K Hd' v (d.cut lo hi) → Q v H') : rSlU K v lo hi H Q := by
  cases r with
  | tup h1 r =>
    rename_i a xs ds
    refine .inl ⟨a, xs, rfl, same_sqt sa h1, fun e => ?_, fun ne p hp => ?_⟩
    · have e' : cutD ds lo hi = ds := by
        unfold cutD
        rw [r.length] at e
        rw [e.1, e.2, List.drop_zero, Nat.sub_zero, List.take_length]
      exact q _ Hd H (.refl sa) (by show Rep K Hd _ (D.tup (cutD ds lo hi)); rw [e']; exact .tup h1 r)
    · have g := Grow.new (p := none) (o := HO.tup (cutV xs lo hi)) sa hp
      exact q _ _ _ g (.tup (SqT.of upd_same) ((r.cut lo hi).mono g.d))
  | lst h1 r =>
    rename_i a xs ds
    refine .inr (.inl ⟨a, xs, rfl, SqL.of (sa _ _ h1), fun p hp => ?_⟩)
    have g := Grow.new (p := none) (o := HO.lst (cutV xs lo hi)) sa hp
    exact q _ _ _ g (.lst upd_same ((r.cut lo hi).mono g.d))
  | str z =>
    have hz : z.length ≤ 1000000 := of_decide_eq_true hs
    exact .inr (.inr ⟨z, rfl, by rw [sizeLine_eq]; omega, q _ Hd H (.refl sa) (.str _)⟩)
  | _ => cases hs
def WE.sl (a : WE K E) (lo hi : WO K E) : WE K E := ⟨tSl (rSlU K) a.t lo.t hi.t, a.m + lo.m + hi.m, fun χ Γ φ => a.w χ Γ fun d => lo.w χ Γ fun l => hi.w χ Γ fun h => d.seq = true ∧ φ (d.cut l h), fun {p χ Γ φ} h σ Hd H n s sa pe l x Q q =>
  a.ok h σ Hd H n s sa pe (by omega) x _ fun v d Hd1 H1 g1 pe1 f1 r1 => lo.ok f1 σ Hd1 H1 _ (s.grow g1) g1.s pe1 (by omega) (x.grow g1) _ fun lo1 Hd2 H2 g2 pe2 f2 => hi.ok f2 σ Hd2 H2 _ (s.grow (g1.trans g2)) g2.s pe2 (by show n + a.m + lo.m + hi.m ≤ LIM; omega) (x.grow (g1.trans g2)) _ fun hi1 Hd3 H3 g3 pe3 f3 => by
    have gg := (g1.trans g2).trans g3
    have e3 : n + a.m + lo.m + hi.m = n + (a.m + lo.m + hi.m) := by omega
    rw [e3] at pe3
    exact sl_op g3.s (r1.mono (g2.trans g3).d) f3.1 fun v' Hd' H' g r => q v' _ Hd' H' (gg.trans g.up) (pe3.grow g) f3.2 r⟩
def WE.cb (o : ON K) (a : WA K E) : WE K E := ⟨tCB o.r a.t, a.m, fun χ Γ φ => a.w χ Γ fun ds => o.w ds φ, fun {p χ Γ φ} h σ Hd H n s sa pe l x Q q =>
  a.ok h σ Hd H n s sa pe l x _ fun vs ds Hd1 H1 g1 pe1 f r => o.ok (p := p) (E := E) (χ := χ) f vs Hd1 H1 g1.s r Q fun v d Hd2 H2 g2 f2 r2 => q v d Hd2 H2 (g1.trans g2.up) (pe1.grow g2) f2 r2⟩
def WE.isi (T : String) (a : WE K E) (hT : T ∈ isiTys := by decide) : WE K E := ⟨tCB (rIsi K) (tCons a.t (tCons (tC (.ty T)) tNil)), a.m, fun χ Γ φ => a.w χ Γ fun d => d.builtin = true ∧ φ (.bl (isiB d T)), fun {p χ Γ φ} h σ Hd H n s sa pe l x Q q =>
  a.ok h σ Hd H n s sa pe l x _ fun v d Hd1 H1 g1 pe1 f r =>
    on_isi (c := ⟨K, p, E, χ⟩) f.1 (kit_isi f.1 hT) _ Hd1 H1 g1.s ⟨v, r, rfl⟩ Q (q _ _ Hd1 H1 g1 pe1 f.2 (.bl _))⟩
def WE.isi2 (T U : String) (a : WE K E) (hT : T ∈ isiTys := by decide) (hU : U ∈ isiTys := by decide) : WE K E := ⟨tCB (rIsiT K) (tCons a.t (tCons (tTup (tCons (tC (.ty T)) (tCons (tC (.ty U)) tNil))) tNil)), a.m, fun χ Γ φ => a.w χ Γ fun d => d.builtin = true ∧ φ (.bl (isiB d T || isiB d U)), fun {p χ Γ φ} h σ Hd H n s sa pe l x Q q =>
  a.ok h σ Hd H n s sa pe l x _ fun v d Hd1 H1 g1 pe1 f r => by
    refine ⟨by rw [sizeLine_eq]; show 2 ≤ _; omega, fun p hp => ?_⟩
    have g := Grow.new (p := none) (o := HO.tup [V.ty T, V.ty U]) g1.s hp
    have hk := kitL_isi (d := d) (Ts := [T, U]) f.1 (by intro V hV; simp only [List.mem_cons, List.not_mem_nil, or_false] at hV; rcases hV with rfl | rfl <;> assumption)
    refine ⟨v, p, _, _, _, _, rfl, upd_same, cls_all [T, U], rep_ty (g.d.trans g.s) f.1 r, kitL_any hk, q _ _ _ _ (g1.trans g.up) (pe1.grow g) ?_ (.bl _)⟩
    have e : ([T, U].any (isiB d)) = (isiB d T || isiB d U) := by simp
    rw [e]; exact f.2⟩
/-! calls of defs -/
def WE.call (pre : List D → Prop) (post : List D → D → Prop) (a : WA K E) : WE K E := ⟨tCall (SpP K pre post) [] L2.E0 a.t, a.m, fun χ Γ φ => a.w χ Γ fun ds => pre ds ∧ ∀ d, post ds d → φ d, fun {p χ Γ φ} h =>
  ev_call rfl (a.ok h) (fun ds f => f.1) fun ds d f k => f.2 d k⟩
def WE.callD {dvs : List V} {des : List D} (pre : List D → Prop) (post : List D → D → Prop) (hd : ∀ H, Reps K H dvs des) (a : WA K E) : WE K E := ⟨tCall (SpP K pre post) dvs L2.E0 a.t, a.m, fun χ Γ φ => a.w χ Γ fun ds => pre (ds ++ des) ∧ ∀ d, post (ds ++ des) d → φ d, fun {p χ Γ φ} h σ Hd H n s sa pe l x Q q =>
  a.ok h σ Hd H n s sa pe l x _ fun vs ds' Hd1 H1 g1 pe1 f rr => ⟨Hd1, ds' ++ des, g1.s, rr.append (hd Hd1), f.1, fun v d Hd2 H2 g2 f2 r2 => q v d Hd2 H2 (g1.trans g2.up) (pe1.grow g2) (f.2 d f2) r2⟩⟩
def WE.callX (pre : List D → Prop) (post : List D → D → Prop) (χ' : List D → Xq) (a : WA K E) : WE K E := ⟨tCall (SpX K pre post χ') [] E a.t, a.m, fun χ Γ φ => a.w χ Γ fun ds => pre ds ∧ (∀ d, post ds d → φ d) ∧ ∀ C fs, χ' ds C fs → χ C fs, fun {p χ Γ φ} h =>
  ev_callX rfl rfl (a.ok h) (fun ds f => f.1) (fun ds d f k => f.2.1 d k) fun ds C fs f k => f.2.2 C fs k⟩
/-- by the pen -/
def WE.callG (k : Nat) (pre : List D → Prop) (post : List D → D → Prop) (i : Nat) (a : WA K E) : WE K E := ⟨tCall (SpG K k pre post) [] L2.E0 (tCons (tVar i) a.t), a.m + k, fun χ Γ φ => Γ[i]? = some .pen ∧ a.w χ Γ fun ds => pre ds ∧ ∀ d, post ds d → φ d, fun {p χ Γ φ} h =>
  ev_callG rfl h.1 (a.ok h.2) (fun ds f => f.1) fun ds d f k => f.2 d k⟩
def WE.split (a b : WE K E) : WE K E := ⟨tM1 rSplitD a.t b.t, a.m + b.m, fun χ Γ φ => a.w χ Γ fun x => ∃ z, x = .str z ∧ b.w χ Γ fun y => ∃ u, y = .str u ∧ (u.length == 0) = false ∧ z.length ≤ 1000000 ∧ φ (.lst ((Txt.split z u).map .str)), fun {p χ Γ φ} h σ Hd H n s sa pe l x Q q =>
  a.ok h σ Hd H n s sa pe (by omega) x _ fun v d Hd1 H1 g1 pe1 ⟨z, e, f1⟩ r1 => by
    subst e; cases r1
    refine ⟨⟨z, rfl⟩, b.ok f1 σ Hd1 H1 _ (s.grow g1) g1.s pe1 (by omega) (x.grow g1) _ fun v d Hd2 H2 g2 pe2 ⟨u, e, hb, ha, f2⟩ r2 => ?_⟩
    subst e; cases r2
    refine ⟨z, u, rfl, rfl, hb, by rw [sizeLine_eq]; omega, fun p hp => ?_⟩
    have g := Grow.new (p := none) (o := HO.lst ((Txt.split z u).map V.str)) g2.s hp
    exact q _ _ _ _ ((g1.trans g2).trans g.up) (by rw [← Nat.add_assoc]; exact pe2.grow g) f2 (.lst upd_same (reps_strs _))⟩
def WE.dget (a b : WE K E) : WE K E := ⟨tDGet a.t b.t, a.m + b.m, fun χ Γ φ => a.w χ Γ fun x => b.w χ Γ fun y => match x with | .dct ks ds => ∃ j d, y = keyD j ∧ valD ks ds j = some d ∧ φ d | _ => False, fun {p χ Γ φ} h σ Hd H n s sa pe l x Q q =>
  a.ok h σ Hd H n s sa pe (by omega) x _ fun v d' Hd1 H1 g1 pe1 f1 r1 => b.ok f1 σ Hd1 H1 _ (s.grow g1) g1.s pe1 (by omega) (x.grow g1) _ fun v2 d2 Hd2 H2 g2 pe2 f2 r2 => by
    cases r1 with
    | dct z1 z2 z3 =>
      obtain ⟨j, d, e, hv, f2⟩ := f2
      subst e
      obtain ⟨w, q1, q2⟩ := valV_zip (z3.mono g2.d) hv
      have ek : v2 = kV j := by cases j <;> (cases r2; rfl)
      subst ek
      exact ⟨_, w, rfl, by rw [← q1]; exact DGet.k (g2.s _ _ (g2.d _ _ z1)), q w _ Hd2 H2 (g1.trans g2) (by rw [← Nat.add_assoc]; exact pe2) f2 q2⟩
    | _ => exact f2.elim⟩
/-! dicts written -/
structure WD (K : PySem.W.Frag) (E : XK) where
  t : List (TE × TE)
  ks : List Key
  m : Nat
  w : Xq → List Sk → (List D → Prop) → Prop
  ok : ∀ {p : Pn} {χ : Xq} {Γ : List Sk} {φ : List D → Prop}, w χ Γ φ → ∀ σ Hd H n, SR K p Hd H σ Γ → Same Hd H → PenO p n Hd H → n + m ≤ LIM → Xs ⟨K, p, E, χ⟩ Hd H → ∀ Q : List (V × V) → Hp → Prop,
    (∀ vs ds Hd' H', Grow p.a Hd H Hd' H' → PenO p (n + m) Hd' H' → φ ds → Reps K Hd' vs ds → ks.length = vs.length → Q ((ks.zip vs).map fun kv => (kV kv.1, kv.2)) H') → tPairs t σ H Q
def WD.nil : WD K E := ⟨[], [], 0, fun χ Γ φ => φ [], fun {p χ Γ φ} h σ Hd H n s sa pe l x Q q => q [] [] Hd H (.refl sa) pe h .nil rfl⟩
def WD.cons (k : Str) (a : WE K E) (r : WD K E) : WD K E := ⟨(tC (.str k), a.t) :: r.t, .inr k :: r.ks, a.m + r.m, fun χ Γ φ => a.w χ Γ fun d => r.w χ Γ fun ds => φ (d :: ds), fun {p χ Γ φ} h σ Hd H n s sa pe l x Q q =>
  a.ok h σ Hd H n s sa pe (by omega) x _ fun v d Hd1 H1 g1 pe1 f1 r1 => r.ok f1 σ Hd1 H1 (n + a.m) (s.grow g1) g1.s pe1 (by omega) (x.grow g1) _ fun vs ds Hd2 H2 g2 pe2 f2 r2 hl =>
    q (v :: vs) (d :: ds) Hd2 H2 (g1.trans g2) (by rw [← Nat.add_assoc]; exact pe2) f2 (.cons (r1.mono g2.d) r2) (by rw [List.length_cons, List.length_cons, hl])⟩
theorem putK_new {kvs : List (Key × V)} {k : Key} {v : V} (h : k ∉ kvs.map (·.1)) : putK kvs k v = kvs ++ [(k, v)] := by
  unfold putK
  rw [if_neg]
  intro z
  obtain ⟨x, hx, e⟩ := List.any_eq_true.mp z
  exact h (List.mem_map.mpr ⟨x, hx, of_decide_eq_true e⟩)
theorem mergeK_new : ∀ {more kvs : List (Key × V)}, (kvs.map (·.1) ++ more.map (·.1)).Nodup → mergeK kvs more = kvs ++ more
  | [], kvs, _ => by simp [mergeK]
  | (k, v) :: more, kvs, h => by
    have h1 : k ∉ kvs.map (·.1) := by
      intro z
      rw [List.nodup_append] at h
      exact h.2.2 k z k (by simp) rfl
    show mergeK (putK kvs k v) more = _
    rw [putK_new h1, mergeK_new (by rw [List.map_append, List.append_assoc]; exact h), List.append_assoc]
    rfl
def WE.disp (a : WD K E) (hn : a.ks.Nodup) (hl : a.ks.length ≤ 15) : WE K E := ⟨tDisp a.t, a.m, fun χ Γ φ => a.w χ Γ fun ds => φ (.dct a.ks ds), fun {p χ Γ φ} h σ Hd H n s sa pe l x Q q => fun Da hD => by
  have nd : Hd Da = none := sa.free hD
  have npa : p.a ≠ some Da := fun z => by
    cases hp : p with
    | none => rw [hp] at z; cases z
    | some ac =>
      rw [hp] at z pe
      have z' : ac.1 = Da := by simpa using z
      obtain ⟨⟨i, dg, ct, fd, e1, _⟩, _⟩ := pe
      rw [z', hD] at e1; cases e1
  have g0 : Grow p.a Hd H Hd (upd H Da (.dK [])) := Grow.loc sa hD
  refine a.ok h σ Hd _ n (s.grow g0) g0.s (pe.write npa) l (x.grow g0) _ fun vs ds Hd1 H1 g1 pe1 f r hk => ?_
  have eD : H1 Da = some (.dK []) := g1.h _ _ npa upd_same
  have nd1 : Hd1 Da = none := g1.f _ (by rw [upd_same]; simp) nd
  refine ⟨eD, a.ks.zip vs, rfl, by rw [List.length_zip]; omega, ?_⟩
  have em : mergeK [] (a.ks.zip vs) = a.ks.zip vs := by
    rw [mergeK_new]
    · rfl
    · show (List.map (·.1) (a.ks.zip vs)).Nodup
      rw [List.map_fst_zip (by omega)]; exact hn
  rw [em]
  have gw : Grow p.a Hd H Hd1 (upd H1 Da (.dK (a.ks.zip vs))) := (g0.trans g1).write hD nd1
  have gf : Grow p.a Hd H (upd Hd1 Da (.dK (a.ks.zip vs))) (upd H1 Da (.dK (a.ks.zip vs))) := gw.freeze sa hD nd1 upd_same
  exact q _ (.dct a.ks ds) _ _ gf ((pe1.write npa).freeze npa nd1) f (.dct upd_same hk (r.mono fun b u e => by rw [upd_ne (ne_of_none e nd1)]; exact e))⟩
/-! ### iteration -/
def WI.seq (a : WE K E) : WI K E := ⟨iSeq K a.t, a.m, fun χ Γ φ => a.w χ Γ fun d => ∃ ds, itemsOf d = some ds ∧ φ ds, fun {p χ Γ φ} h => ei_seq (c := ⟨K, p, E, χ⟩) (a.ok h)⟩
def WI.rng1 (a : WA K E) : WI K E := ⟨iRng1 a.t, a.m, fun χ Γ φ => a.w χ Γ fun ds => ∃ n, ds = [.int n] ∧ (-(2 ^ 62) ≤ n ∧ n < 2 ^ 62) ∧ φ (rngD 0 n.toNat), fun {p χ Γ φ} h => (ei_rng1 (c := ⟨K, p, E, χ⟩) (ι := fun n => (-(2 ^ 62) ≤ n ∧ n < 2 ^ 62) ∧ φ (rngD 0 n.toNat)) (a.ok h) fun n f => f.1).imp fun ds ⟨n, f, e⟩ => by rw [e]; exact f.2⟩
def WI.rng2 (a : WA K E) : WI K E := ⟨iRng2 a.t, a.m, fun χ Γ φ => a.w χ Γ fun ds => ∃ i n, ds = [.int i, .int n] ∧ (-(2 ^ 62) ≤ i ∧ i < 2 ^ 62 ∧ -(2 ^ 62) ≤ n ∧ n < 2 ^ 62) ∧ φ (rngD i (n - i).toNat), fun {p χ Γ φ} h σ Hd H n' s sa pe l x R q =>
  a.ok h σ Hd H n' s sa pe l x _ fun vs ds Hd1 H1 g1 pe1 ⟨i, n, e, b, f⟩ r1 => by
    subst e
    cases r1 with | cons a r => cases r with | cons a' r => cases r; cases a; cases a'; exact ⟨i, n, rfl, b, q _ _ Hd1 H1 g1 pe1 f (itd_rng i _)⟩⟩
def WI.enum (a : WA K E) : WI K E := ⟨iEnum K a.t, a.m, fun χ Γ φ => a.w χ Γ fun as => ∃ ds, as = [.lst ds] ∧ φ (enumD ds), fun {p χ Γ φ} h => (ei_enum (c := ⟨K, p, E, χ⟩) (ψ := fun ds => φ (enumD ds)) (a.ok h)).imp fun es ⟨ds, f, e⟩ => by rw [e]; exact f⟩
def WI.zip (a : WA K E) : WI K E := ⟨RZ.iZipA K a.t, a.m, fun χ Γ φ => a.w χ Γ fun as => ∃ ds es, (as = [.lst ds, .lst es] ∨ as = [.tup ds, .tup es]) ∧ φ (zipD ds es), fun {p χ Γ φ} h σ Hd H n s sa pe l x R q =>
  a.ok h σ Hd H n s sa pe l x _ fun vs as Hd1 H1 g1 pe1 ⟨ds, es, e, f⟩ r1 => by
    rcases e with e | e
    · subst e
      rcases r1 with _ | ⟨a, _ | ⟨a', _ | _⟩⟩
      cases a with | lst h1 r => cases a' with | lst h2 r2 => exact ⟨_, _, _, _, rfl, .inl ⟨SqL.of (g1.s _ _ h1), SqL.of (g1.s _ _ h2), q _ _ Hd1 H1 g1 pe1 f (itd_zip h1 r h2 r2)⟩⟩
    · subst e
      rcases r1 with _ | ⟨a, _ | ⟨a', _ | _⟩⟩
      cases a with | tup h1 r => cases a' with | tup h2 r2 => exact ⟨_, _, _, _, rfl, .inr ⟨same_sqt g1.s h1, same_sqt g1.s h2, q _ _ Hd1 H1 g1 pe1 f (itd_zipT h1 r h2 r2)⟩⟩⟩
/-! ### targets -/
def WG.name (i : Nat) : WG K := ⟨gName i, [i], fun d => some [(i, d)], fun {d l} e j hj => by cases e; exact hj, fun {p E χ d l} e => by cases e; exact tg_name⟩
def WGs.nil : WGs K := ⟨gNil, [], 0, fun ds => match ds with | [] => some [] | _ => none, fun {d l} e j hj => by split at e <;> cases e; exact hj, fun {d l} e => by split at e <;> cases e; rfl, fun {p E χ d l} e => by split at e <;> cases e; exact tgs_nil⟩
def WGs.cons (a : WG K) (r : WGs K) : WGs K where
  t := gCons a.t r.t
  is := a.is ++ r.is
  n := r.n + 1
  ps := fun ds => match ds with | d :: ds => (a.ps d).bind fun l => (r.ps ds).bind fun l2 => some (l ++ l2) | [] => none
  sub := fun {d l} e j hj => by
    split at e
    · obtain ⟨l1, e1, e⟩ := Option.bind_eq_some_iff.mp e
      obtain ⟨l2, e2, e⟩ := Option.bind_eq_some_iff.mp e
      cases e
      rw [List.map_append, List.mem_append] at hj
      exact List.mem_append.mpr (hj.imp (a.sub e1 j) (r.sub e2 j))
    · cases e
  len := fun {d l} e => by
    split at e
    · obtain ⟨l1, e1, e⟩ := Option.bind_eq_some_iff.mp e
      obtain ⟨l2, e2, e⟩ := Option.bind_eq_some_iff.mp e
      rw [List.length_cons, r.len e2]
    · cases e
  ok := fun {p E χ d l} e => by
    split at e
    · obtain ⟨l1, e1, e⟩ := Option.bind_eq_some_iff.mp e
      obtain ⟨l2, e2, e⟩ := Option.bind_eq_some_iff.mp e
      cases e
      exact tgs_cons (a.ok e1) (r.ok e2)
    · cases e
def WG.tup (r : WGs K) : WG K where
  t := gTup K r.n r.t
  is := r.is
  ps := fun d => match d with | .tup ds => r.ps ds | _ => none
  sub := fun {d l} e => by
    split at e
    · exact r.sub e
    · cases e
  ok := fun {p E χ d l} e => by
    split at e
    · exact tg_tup (c := ⟨K, p, E, χ⟩) (r.ok e) (r.len e)
    · cases e
def WG.seq (r : WGs K) : WG K where
  t := gSeq K r.n r.t
  is := r.is
  ps := fun d => match d.its with | some ds => r.ps ds | none => none
  sub := fun {d l} e => by
    split at e
    · exact r.sub e
    · cases e
  ok := fun {p E χ d l} e => by
    split at e
    · rename_i h; exact tg_seq (c := ⟨K, p, E, χ⟩) h (r.ok e) (r.len e)
    · cases e
/-! ### comprehensions -/
def LcP (g : WG K) (tt : WT K E) (te : WE K E) (χ : Xq) (Γ : List Sk) (L : Nat) (ds : List D) (φ : D → Prop) : Prop := ds.length ≤ L ∧ ∃ (T : D → Bool → Prop) (F : D → D → Prop),
  (∀ d ∈ ds, ∃ ps, g.ps d = some ps ∧ tt.w χ (setD (wipeG Γ g.is) ps) (T d) ∧ (T d true → te.w χ (setD (wipeG Γ g.is) ps) (F d))) ∧ ∀ es, Cmp T F ds es → φ (.lst es)
theorem ev_lcW (wi : WI K E) (g : WG K) (tt : WT K E) (te : WE K E) {L : Nat} (hz : L < 1000000) {p : Pn} {χ : Xq} {Γ : List Sk} {φ : D → Prop} (hi : wi.w χ Γ fun ds => LcP g tt te χ Γ L ds φ) :
    Ev ⟨K, p, E, χ⟩ (tLc wi.t g.t tt.t te.t g.is) Γ (wi.m + L * (tt.m + te.m)) φ := fun σ Hd H n s sa pe l x Q q => by
  have hLc : n + wi.m ≤ LIM := by have := Nat.zero_le (L * (tt.m + te.m)); omega
  refine wi.ok hi σ Hd H n s sa pe hLc x _ fun J ds Hd1 H1 g1 pe1 f J1 => fun Da hD => ?_
  obtain ⟨hl, T, F, h, fin⟩ := f
  have nd1 : Hd1 Da = none := g1.s.free hD
  have npa : p.a ≠ some Da := fun z => by
    cases hp : p with
    | none => rw [hp] at z; cases z
    | some ac =>
      rw [hp] at z pe1
      have z' : ac.1 = Da := by simpa using z
      obtain ⟨⟨i, dg, ct, fd, e1, _⟩, _⟩ := pe1
      rw [z', hD] at e1; cases e1
  let Pv : Nat → Hp → Prop := fun i Hx => ∃ Hd2 acc es, Grow p.a Hd1 H1 Hd2 Hx ∧ Hx Da = some (.lst acc) ∧ Hd2 Da = none ∧ PenO p (n + wi.m + i * (tt.m + te.m)) Hd2 Hx ∧ Reps K Hd2 acc es ∧ Cmp T F (ds.take i) es
  have key : ∀ i, i ≤ ds.length → i * (tt.m + te.m) ≤ L * (tt.m + te.m) := fun i hi => Nat.mul_le_mul_right _ (by omega)
  refine ⟨fun i m Hx => m = ds.length - i ∧ i ≤ ds.length ∧ Pv i Hx, ⟨ds.length, by simp, Nat.zero_le _, Hd1, [], [], Grow.loc g1.s hD, upd_same, nd1, ?_, .nil, .nil⟩, ?_⟩
  · have := pe1.write (b := Da) (o := .lst []) npa
    simpa using this
  rintro i m Hx ⟨rfl, hi, Hd2, acc, es, gx, hx, nd, px, rx, cx⟩
  obtain ⟨go, stop, yld⟩ := J1 Hd2 Hx gx.d gx.s
  by_cases hlt : i < ds.length
  · refine .inr ⟨go i hlt, Pv (i + 1), fun H' p' => ⟨ds.length - (i + 1), by omega, rfl, hlt, p'⟩, fun v Hy hy => ?_⟩
    have hd : ds[i]? = some ds[i] := by simp
    obtain ⟨Hd3, g3, r3⟩ := yld i v Hy hy _ hd
    obtain ⟨ps, hgp, hb, he⟩ := h ds[i] (List.getElem_mem hlt)
    have tg := g.ok (p := p) (E := E) (χ := χ) hgp
    have hps := g.sub hgp
    have hb := tt.ok (p := p) hb
    have he := fun z => te.ok (p := p) (he z)
    have gT : Grow p.a Hd H Hd3 Hy := ⟨(g1.d.trans gx.d).trans g3.d, fun b o ne e => g3.h b o (by simp) (gx.h b o ne (g1.h b o ne e)), g3.s, fun a ha na => g3.f a (gx.m a (g1.m a ha)) (gx.f a (g1.m a ha) (g1.f a ha na)), fun a ha => g3.m a (gx.m a (g1.m a ha))⟩
    have sT : SR K p Hd3 Hy (wipe σ g.is) (wipeG Γ g.is) := (s.grow gT).wipe g.is
    refine tg _ Hd3 Hy v _ sT g3.s r3 _ fun σ2 s2 l2 k2 => ?_
    have l2' : σ2.length = σ.length := by rw [l2, wipe_length]
    refine ⟨wipe_eq k2 l2' hps, ?_⟩
    have p3 := px.grow g3
    have kk := key (i + 1) hlt
    have e1 : (i + 1) * (tt.m + te.m) = i * (tt.m + te.m) + (tt.m + te.m) := Nat.succ_mul _ _
    have hDy : Hy Da = some (.lst acc) := g3.h _ _ (by simp) hx
    have nd3 : Hd3 Da = none := g3.f _ (by rw [hx]; simp) nd
    refine hb σ2 Hd3 Hy _ s2 g3.s p3 (by omega) (x.grow gT) _ fun b Hd4 H4 g4 p4 t4 => ?_
    cases b with
    | true =>
      show te.t σ2 H4 _
      refine he t4 σ2 Hd4 H4 _ (s2.grow g4) g4.s p4 (by omega) (x.grow (gT.trans g4)) _ fun y d Hd5 H5 g5 p5 f5 r5 => ?_
      have g45 := g4.trans g5
      have hD5 : H5 Da = some (.lst acc) := g45.h _ _ npa hDy
      have nd5 : Hd5 Da = none := g45.f _ (by rw [hDy]; simp) nd3
      have hla : acc.length = es.length := rx.length
      have hle := cx.len
      refine ⟨acc, hD5, ?_, Hd5, acc ++ [y], es ++ [d], (gx.trans (g3.up.trans g45)).write hD nd5, upd_same, nd5, ?_, (rx.mono (g3.d.trans g45.d)).append (.cons r5 .nil), ?_⟩
      · rw [List.length_take] at hle
        rw [hla, sizeLine_eq]; omega
      · refine PenO.more (p5.write npa) (by omega)
      · rw [List.take_add_one, hd]; exact .take t4 f5 cx
    | false =>
      show Pv (i + 1) H4
      refine ⟨Hd4, acc, es, gx.trans (g3.up.trans g4), g4.h _ _ npa hDy, g4.f _ (by rw [hDy]; simp) nd3, PenO.more p4 (by omega), rx.mono (g3.d.trans g4.d), ?_⟩
      rw [List.take_add_one, hd]; exact .skip t4 cx
  · have e : i = ds.length := by omega
    subst e
    refine .inl ⟨stop _ (Nat.le_refl _), ?_⟩
    have kk := key _ (Nat.le_refl ds.length)
    rw [List.take_length] at cx
    have gf := (g1.trans gx)
    have gz : Grow p.a Hd H (upd Hd2 Da (.lst acc)) Hx := gf.freeze sa (g1.free hD) nd hx
    exact q (.ref Da) (.lst es) _ _ gz (PenO.more (px.freeze npa nd) (by omega)) (fin es cx) (.lst upd_same (rx.mono fun b u e => by rw [upd_ne (ne_of_none e nd)]; exact e))
/-! ### for -/
def ForP (g : WG K) (tb : WS K E) (χ : Xq) (Γ : List Sk) (L : Nat) (W : Wh) (ds : List D) : Prop := ds.length ≤ L ∧ ∃ Iv : Nat → List Sk → Prop, Iv 0 Γ ∧
  (∀ i d Γ', ds[i]? = some d → Iv i Γ' → ∃ ps, g.ps d = some ps ∧ tb.w χ (setD Γ' ps) { N := Iv (i + 1), C := Iv (i + 1), B := W.N, R := W.R }) ∧ ∀ Γ', Iv ds.length Γ' → W.N Γ'
theorem wp_forW (wi : WI K E) (g : WG K) (tb : WS K E) {L : Nat} {p : Pn} {χ : Xq} {Γ : List Sk} {W : Wh} (hi : wi.w χ Γ fun ds => ForP g tb χ Γ L W ds) : Wp ⟨K, p, E, χ⟩ (tFor wi.t g.t tb.t) Γ (wi.m + L * tb.m) W := fun Hb Hd0 H0 σ Hd H n o l x En k1 k2 k3 k4 => by
  have hm : n + wi.m ≤ LIM := by have := Nat.zero_le (L * tb.m); omega
  refine wi.ok hi σ Hd H n o.sr o.g.s o.pe hm (x.grow o.g) _ fun J ds Hd1 H1 g1 pe1 f J1 => ?_
  obtain ⟨hl, Iv, h0, hs, hd⟩ := f
  have key : ∀ i, i ≤ ds.length → i * tb.m ≤ L * tb.m := fun i hi => Nat.mul_le_mul_right _ (by omega)
  have o1 := o.grow g1 pe1
  let Pv : Nat → L2.St → Hp → Prop := fun i σx Hx => ∃ Γx Hdx, Iv i Γx ∧ Ok ⟨K, p, E, χ⟩ Hd1 Hd0 H0 σx Γx Hdx Hx (n + wi.m + i * tb.m)
  refine ⟨fun i m σx Hx => m = ds.length - i ∧ i ≤ ds.length ∧ Pv i σx Hx, ⟨ds.length, by simp, Nat.zero_le _, Γ, Hd1, h0, ⟨Same.refl _, o1.s0, o1.g, o1.sr, by rw [Nat.zero_mul]; exact o1.pe, o1.fr⟩⟩, ?_⟩
  rintro i m σx Hx ⟨rfl, hi, Γx, Hdx, ivx, ox⟩
  obtain ⟨go, stop, yld⟩ := J1 Hdx Hx ox.b ox.g.s
  have back : ∀ {σ' Γ' Hd' H' k}, Ok ⟨K, p, E, χ⟩ Hd1 Hd0 H0 σ' Γ' Hd' H' k → Ok ⟨K, p, E, χ⟩ Hb Hd0 H0 σ' Γ' Hd' H' k := fun o' => ⟨(o.b.trans g1.d).trans o'.b, o'.s0, o'.g, o'.sr, o'.pe, o'.fr⟩
  by_cases hlt : i < ds.length
  · refine .inr ⟨go i hlt, Pv (i + 1), fun σ' H' p' => ⟨ds.length - (i + 1), by omega, rfl, hlt, p'⟩, fun v Hy hy => ?_⟩
    have hd' : ds[i]? = some ds[i] := by simp
    obtain ⟨Hd3, g3, r3⟩ := yld i v Hy hy _ hd'
    obtain ⟨ps, hgp, hb⟩ := hs i _ Γx hd' ivx
    have tg := g.ok (p := p) (E := E) (χ := χ) hgp
    have hb := tb.ok (p := p) hb
    have o3 := ox.grow g3.up (ox.pe.grow g3)
    have kk := key (i + 1) hlt
    have e1 : (i + 1) * tb.m = i * tb.m + tb.m := Nat.succ_mul _ _
    refine tg σx Hd3 Hy v Γx o3.sr o3.g.s r3 _ fun σ2 s2 _ q2 => ?_
    have o4 := o3.tg s2 q2
    refine hb Hd1 Hd0 H0 σ2 Hd3 Hy _ o4 (by omega) x _ ?_ ?_ ?_ ?_
    · intro Γ' σ' Hd' H' iv o5; exact ⟨Γ', Hd', iv, o5.more (by omega)⟩
    · intro Γ' σ' Hd' H' iv o5; exact k1 Γ' σ' Hd' H' iv (back (o5.more (by omega)))
    · intro Γ' σ' Hd' H' iv o5; exact ⟨Γ', Hd', iv, o5.more (by omega)⟩
    · intro v d Hd' H' iv g pe r; exact k4 v d Hd' H' iv g (pe.more (by omega)) r
  · have e : i = ds.length := by omega
    subst e
    have kk := key _ (Nat.le_refl ds.length)
    exact .inl ⟨stop _ (Nat.le_refl _), k1 _ _ _ _ (hd Γx ivx) (back (ox.more (by omega)))⟩

def WE.lc (wi : WI K E) (g : WG K) (tt : WT K E) (te : WE K E) (L : Nat) (hz : L < 1000000 := by decide) : WE K E := ⟨tLc wi.t g.t tt.t te.t g.is, wi.m + L * (tt.m + te.m), fun χ Γ φ => wi.w χ Γ fun ds => LcP g tt te χ Γ L ds φ, fun {p χ Γ φ} h => ev_lcW wi g tt te hz h⟩
/-- a local list seen as data -/
def WE.borrow (i : Nat) (a : WE K E) : WE K E := ⟨a.t, a.m, fun χ Γ φ => match Γ[i]? with | some (.own ds) => a.w noX (Γ.set i (.dat (.lst ds))) fun d => scalar d = true ∧ φ d | _ => False, fun {p χ Γ φ} h => by
  split at h
  · rename_i ds e
    have q := ev_borrow (c := ⟨K, p, E, noX⟩) e (a.ok h) (fun d f => f.1) (fun _ _ z => z)
    exact fun σ Hd H n s sa pe l x Q k => q σ Hd H n s sa pe l (fun _ _ _ _ _ _ z _ => z.elim) Q fun v d Hd' H' g pe' f r => k v d Hd' H' g pe' f.2 r
  · exact h.elim⟩
/-! ### statements -/
def WM.up (a : WE K E) : WM K E := ⟨a.t, a.m, fun χ Γ φ => a.w χ Γ fun d => φ d Γ, fun {p χ Γ φ} h => ((a.ok h).toM).imp fun d G ⟨e, f⟩ => by rw [e]; exact f⟩
def WM.popAt (i : Nat) (a : WE K E) : WM K E := ⟨tBM K "list" rPopAt (tVar i) (tCons a.t tNil), a.m, fun χ Γ φ => match Γ[i]? with | some (.own ds) => a.w χ Γ fun d => ∃ (k : Nat) (x : D), d = .int (k : Int) ∧ ds[k]? = some x ∧ k < 1000000 ∧ φ x (Γ.set i (.own (ds.eraseIdx k))) | _ => False, fun {p χ Γ φ} h => by
  split at h
  · rename_i ds e
    exact evm_popAt (((a.ok h).toM).imp fun d G ⟨eG, k, x, h1, h2, h3, h4⟩ => ⟨ds, k, x, by rw [eG]; exact e, h1, h2, h3, by rw [eG]; exact h4⟩) ⟨ds, e⟩
  · exact h.elim⟩
def WS.next : WS K E := ⟨tNext, 0, fun χ Γ W => W.N Γ, fun {p χ Γ W} h => wp_next h⟩
def WS.brk : WS K E := ⟨tBreak, 0, fun χ Γ W => W.B Γ, fun {p χ Γ W} h => wp_break h⟩
def WS.cont : WS K E := ⟨tCont, 0, fun χ Γ W => W.C Γ, fun {p χ Γ W} h => wp_cont h⟩
def WS.seq (a b : WS K E) : WS K E := ⟨tSeq a.t b.t, a.m + b.m, fun χ Γ W => a.w χ Γ { N := fun G => b.w χ G W, R := W.R, B := W.B, C := W.C }, fun {p χ Γ W} h => wp_seqW (a.ok h) fun _ f => b.ok f⟩
def WS.ret (a : WM K E) : WS K E := ⟨tRet a.t, a.m, fun χ Γ W => a.w χ Γ fun d _ => W.R d, fun {p χ Γ W} h => wp_ret (a.ok h)⟩
def WS.retN : WS K E := ⟨tRetN, 0, fun χ Γ W => W.R .non, fun {p χ Γ W} h => wp_retN h⟩
def WS.asg (j : Nat) (a : WM K E) : WS K E := ⟨tAsg a.t (gName j), a.m, fun χ Γ W => a.w χ Γ fun d G => W.N (G.set j (.dat d)), fun {p χ Γ W} h => wp_asg (a.ok h)⟩
def WS.asgT (g : WG K) (a : WE K E) : WS K E := ⟨tAsg a.t g.t, a.m, fun χ Γ W => a.w χ Γ fun d => ∃ l, g.ps d = some l ∧ W.N (setD Γ l), fun {p χ Γ W} h => wp_asgT (a.ok h) fun d ⟨l, e, f⟩ => ⟨l, g.ok e, f⟩⟩
def WS.asgOwn (j : Nat) (a : WA K E) : WS K E := ⟨tAsg (tLst a.t) (gName j), a.m, fun χ Γ W => a.w χ Γ fun ds => ds.length ≤ 1000 ∧ W.N (Γ.set j (.own ds)), fun {p χ Γ W} h => wp_asgOwn (a.ok h) (fun ds f => f.1) fun ds f => f.2⟩
def WS.drop (a : WM K E) : WS K E := ⟨tDrop a.t, a.m, fun χ Γ W => a.w χ Γ fun _ G => W.N G, fun {p χ Γ W} h => wp_drop (a.ok h)⟩
def WS.ifS (t : WT K E) (a b : WS K E) : WS K E := ⟨tIfS t.t a.t b.t, t.m + (a.m + b.m), fun χ Γ W => t.w χ Γ fun k => (k = true → a.w χ Γ W) ∧ (k = false → b.w χ Γ W), fun {p χ Γ W} h => wp_if (t.ok h) (fun f => (a.ok (f.1 rfl)).more (by omega)) fun f => (b.ok (f.2 rfl)).more (by omega)⟩
def WS.frz (i : Nat) (a : WS K E) : WS K E := ⟨a.t, a.m, fun χ Γ W => match Γ[i]? with | some (.own ds) => a.w χ (Γ.set i (.dat (.lst ds))) W | _ => a.w χ Γ W, fun {p χ Γ W} h => by
  split at h
  · rename_i ds e; exact wp_freeze i e (a.ok h)
  · exact a.ok h⟩
def WS.append (i : Nat) (a : WM K E) : WS K E := ⟨tDrop (tBM K "list" rAppend (tVar i) (tCons a.t tNil)), a.m, fun χ Γ W => (∃ ds, Γ[i]? = some (.own ds)) ∧ a.w χ Γ fun d G => match G[i]? with | some (.own ds) => ds.length < 1000000 ∧ W.N (G.set i (.own (ds ++ [d]))) | _ => False, fun {p χ Γ W} h => wp_append ((a.ok h.2).imp fun d G f => by
  split at f
  · rename_i ds e; exact ⟨ds, e, f.1, f.2⟩
  · exact f.elim) h.1⟩
def WS.forS (wi : WI K E) (g : WG K) (tb : WS K E) (L : Nat) : WS K E := ⟨tFor wi.t g.t tb.t, wi.m + L * tb.m, fun χ Γ W => wi.w χ Γ fun ds => ForP g tb χ Γ L W ds, fun {p χ Γ W} h => wp_forW wi g tb h⟩
def WS.par (i j : Nat) (a b : WE K E) : WS K E := ⟨tPar i j (tCons a.t (tCons b.t tNil)), a.m + b.m, fun χ Γ W => a.w χ Γ fun x => b.w χ Γ fun y => W.N ((Γ.set i (.dat x)).set j (.dat y)), fun {p χ Γ W} h Hb Hd0 H0 σ Hd H n o l x En k1 k2 k3 k4 => by
  have q := (WA.cons a (WA.cons b WA.nil)).ok (p := p) (χ := χ) (Γ := Γ) (φ := fun ds => ∃ a b, ds = [a, b] ∧ W.N ((Γ.set i (.dat a)).set j (.dat b)))
    (show a.w χ Γ fun x => b.w χ Γ fun y => ∃ a b, [x, y] = [a, b] ∧ W.N ((Γ.set i (.dat a)).set j (.dat b)) by
      have e : (fun x => b.w χ Γ fun y => ∃ a b, [x, y] = [a, b] ∧ W.N ((Γ.set i (.dat a)).set j (.dat b))) = fun x => b.w χ Γ fun y => W.N ((Γ.set i (.dat x)).set j (.dat y)) := by
        funext x
        congr 1
        funext y
        refine propext ⟨fun ⟨a, b, e, f⟩ => by cases e; exact f, fun f => ⟨x, y, rfl, f⟩⟩
      rw [e]; exact h)
  refine q σ Hd H n o.sr o.g.s o.pe l (x.grow o.g) (fun vs H1 => ∃ v w, vs = [v, w] ∧ En.nx ((σ.set i (some v)).set j (some w)) H1) fun vs ds Hd' H' g pe f r => ?_
  obtain ⟨a, b, e, w⟩ := f
  subst e
  cases r with | cons ra r => cases r with | cons rb r => cases r; exact ⟨_, _, rfl, k1 _ _ _ _ w (((o.grow g pe).set ra).set rb)⟩⟩
/-- left, found = list(e), [] : both one's own -/
def WS.parLE (i j : Nat) (a : WE K E) : WS K E := ⟨tPar i j (tCons (WE.cb (E := E) ON.list (WA.cons a WA.nil)).t (tCons (tLst tNil) tNil)), a.m, fun χ Γ W => a.w χ Γ fun x => ∃ ds, x.its = some ds ∧ W.N ((Γ.set i (.own ds)).set j (.own [])), fun {p χ Γ W} h Hb Hd0 H0 σ Hd H n o l x En k1 k2 k3 k4 => by
  refine a.ok h σ Hd H n o.sr o.g.s o.pe l (x.grow o.g) _ fun v d Hd1 H1 g1 pe1 ⟨ds, e, f⟩ r => ?_
  have o1 := o.grow g1 pe1
  have fin : ∀ (ys : List V) (l : Addr), Reps K Hd1 ys ds → H1 l = none → ∀ b, upd H1 l (.lst ys) b = none → En.nx ((σ.set i (some (.ref l))).set j (some (.ref b))) (upd (upd H1 l (.lst ys)) b (.lst [])) := fun ys l r hl b hb =>
    k1 _ _ _ _ f ((o1.newOwn (i := i) hl r).newOwn (i := j) hb .nil)
  cases r with
  | tup h1 r => cases e; exact ⟨_, _, rfl, .inr (same_sqt o1.g.s h1), fun l hl => ⟨by simp, fun b hb => ⟨_, _, rfl, fin _ l r hl b hb⟩⟩⟩
  | lst h1 r => cases e; exact ⟨_, _, rfl, .inl (SqL.of (o1.g.s _ _ h1)), fun l hl => ⟨by simp, fun b hb => ⟨_, _, rfl, fin _ l r hl b hb⟩⟩⟩
  | _ => cases e⟩
end
/-! ### defs by their terms -/
section
variable {P : Program} {w : World} {K : PySem.W.Frag} {mg : Str → Option Value} {base : Heap} {x : Str} {k : Nat} {ps N : List Str} {dvs : List V} {st : Stmt} {pre : List D → Prop} {post : List D → D → Prop} {m : Nat}
theorem cal_W (T : WS K L2.E0) (Df : Def K mg x st ps dvs) (S : FnScope N ps (defScope st)) (hl : ∀ ds, pre ds → ds.length = ps.length)
    (hb : ∀ (f : Addr) (cdv : Value) (A : Around) (outer : List Env) (s : Shared) (H : Hp) (E : XK), Room k (A.deeper (envOfC x (defScope st) s.heap.objs.size f cdv)) → NoG (A.deeper (envOfC x (defScope st) s.heap.objs.size f cdv)) →
      ∃ t, PSs (cxOf CX0 P w K mg base N x (defScope st) f cdv A outer s H E).nox (defBody st) t ∧ t = T.t) (hm : T.m = 0) (hw : ∀ ds, pre ds → T.w noX (G0 N ds) (retW (post ds))) : Cal P w K mg base x (k + 1) ps dvs (SpP K pre post) :=
  cal_P Df S hl fun f cdv A outer s H E hr ng ds hp => ⟨T.t, (hb f cdv A outer s H E hr ng).elim fun t h => h.2 ▸ h.1, fun p => (T.ok (hw ds hp)).more (by omega)⟩
theorem cal_WG (T : WS K L2.E0) (Df : Def K mg x st ps dvs) (S : FnScope N ps (defScope st)) (hl : ∀ ds, pre ds → ds.length + 1 = ps.length)
    (hb : ∀ (f : Addr) (cdv : Value) (A : Around) (outer : List Env) (s : Shared) (H : Hp) (E : XK), Room k (A.deeper (envOfC x (defScope st) s.heap.objs.size f cdv)) → NoG (A.deeper (envOfC x (defScope st) s.heap.objs.size f cdv)) →
      ∃ t, PSs (cxOf CX0 P w K mg base N x (defScope st) f cdv A outer s H E).nox (defBody st) t ∧ t = T.t) (hm : T.m ≤ m) (hw : ∀ ds, pre ds → T.w noX (G1 N ds) (retW (post ds))) : Cal P w K mg base x (k + 1) ps dvs (SpG K m pre post) :=
  cal_G Df S hl fun f cdv A outer s H E hr ng ds hp => ⟨T.t, (hb f cdv A outer s H E hr ng).elim fun t h => h.2 ▸ h.1, fun a cc => (T.ok (hw ds hp)).more hm⟩
end
end DL
set_option maxRecDepth 100000
set_option maxHeartbeats 4000000
/-! DLs: the rows by which a term's promise is opened. -/
namespace DL
open PySem L2 PyProof.Rows
section
variable {K : PySem.W.Frag} {E : XK} {χ : Xq} {Γ : List Sk} {φ : D → Prop} {ψ : Bool → Prop} {ξ : List D → Prop} {W : Wh} {Φ : D → List Sk → Prop} {a b d : WE K E} {t u : WT K E} {x y : D}
/-- the data at a slot -/
def DatAt (Γ : List Sk) (i : Nat) (φ : D → Prop) : Prop := match Γ[i]? with | some (.dat d) => φ d | _ => False
def OwnAt (Γ : List Sk) (i : Nat) (φ : List D → Prop) : Prop := match Γ[i]? with | some (.own d) => φ d | _ => False
@[simp] theorem datAt_0 {Γ : List Sk} : DatAt (.dat x :: Γ) 0 φ = φ x := rfl
@[simp] theorem datAt_s {s : Sk} {Γ : List Sk} {i : Nat} : DatAt (s :: Γ) (i + 1) φ = DatAt Γ i φ := rfl
@[simp] theorem ownAt_0 {Γ : List Sk} {ds : List D} : OwnAt (.own ds :: Γ) 0 ξ = ξ ds := rfl
@[simp] theorem ownAt_s {s : Sk} {Γ : List Sk} {i : Nat} : OwnAt (s :: Γ) (i + 1) ξ = OwnAt Γ i ξ := rfl
def PenIs (Γ : List Sk) (i : Nat) : Prop := Γ[i]? = some .pen
@[simp] theorem penIs_0 {Γ : List Sk} : PenIs (.pen :: Γ) 0 = True := by simp [PenIs]
@[simp] theorem penIs_s {s : Sk} {Γ : List Sk} {i : Nat} : PenIs (s :: Γ) (i + 1) = PenIs Γ i := by simp [PenIs]
theorem w_var {i : Nat} : (WE.var (K := K) (E := E) i).w χ Γ φ = DatAt Γ i φ := rfl
theorem w_int {i : Int} : (WE.int (K := K) (E := E) i).w χ Γ φ = φ (.int i) := rfl
theorem w_bl {i : Bool} : (WE.bl (K := K) (E := E) i).w χ Γ φ = φ (.bl i) := rfl
theorem w_str {i : Str} : (WE.str (K := K) (E := E) i).w χ Γ φ = φ (.str i) := rfl
theorem w_non : (WE.non (K := K) (E := E)).w χ Γ φ = φ .non := rfl
theorem w_ktup {A : Addr} {xs : List V} {ds : List D} {h : ∀ H, SqT K H A xs} {r : ∀ H, Reps K H xs ds} : (WE.ktup (E := E) ds h r).w χ Γ φ = φ (.tup ds) := rfl
theorem w_op {o : O2 K} : (WE.op o a b).w χ Γ φ = a.w χ Γ fun x => b.w χ Γ fun y => o.w x y φ := rfl
theorem w_neg : (WE.neg a).w χ Γ φ = a.w χ Γ fun d => ∃ i, d = .int i ∧ φ (.int (-i)) := rfl
theorem w_chain {f g : Int → Int → Bool} : (WE.chain f g a b d).w χ Γ φ = a.w χ Γ fun x => b.w χ Γ fun y => ∃ i j, x = .int i ∧ y = .int j ∧ (f i j = true → d.w χ Γ fun z => ∃ k, z = .int k ∧ φ (.bl (g j k))) ∧ (f i j = false → φ (.bl false)) := rfl
theorem w_nil : (WA.nil (K := K) (E := E)).w χ Γ ξ = ξ [] := rfl
theorem w_cons {r : WA K E} : (WA.cons a r).w χ Γ ξ = a.w χ Γ fun d => r.w χ Γ fun ds => ξ (d :: ds) := rfl
theorem w_tup {r : WA K E} : (WE.tup r).w χ Γ φ = r.w χ Γ fun ds => ds.length ≤ 1000 ∧ φ (.tup ds) := rfl
theorem w_lst {r : WA K E} : (WE.lst r).w χ Γ φ = r.w χ Γ fun ds => ds.length ≤ 1000 ∧ φ (.lst ds) := rfl
theorem w_tst : (WT.tst a).w χ Γ ψ = a.w χ Γ fun d => ∃ b, d = .bl b ∧ ψ b := rfl
theorem w_tb : (WT.b a).w χ Γ ψ = a.w χ Γ fun d => ∃ b, d = .bl b ∧ ψ b := rfl
theorem w_not : (WT.not t).w χ Γ ψ = t.w χ Γ fun b => ψ (!b) := rfl
theorem w_yes : (WT.yes (K := K) (E := E)).w χ Γ ψ = ψ true := rfl
theorem w_and : (WT.and t u).w χ Γ ψ = t.w χ Γ fun k => (k = true → u.w χ Γ ψ) ∧ (k = false → ψ false) := rfl
theorem w_or : (WT.or t u).w χ Γ ψ = t.w χ Γ fun k => (k = false → u.w χ Γ ψ) ∧ (k = true → ψ true) := rfl
theorem w_andV : (WE.andV a b).w χ Γ φ = a.w χ Γ fun d => ∃ k, d = .bl k ∧ (k = true → b.w χ Γ φ) ∧ (k = false → φ (.bl false)) := rfl
theorem w_orV : (WE.orV a b).w χ Γ φ = a.w χ Γ fun d => ∃ k, d = .bl k ∧ (k = false → b.w χ Γ φ) ∧ (k = true → φ (.bl true)) := rfl
theorem w_notV : (WE.notV a).w χ Γ φ = a.w χ Γ fun d => ∃ k, d = .bl k ∧ φ (.bl (!k)) := rfl
theorem w_ite : (WE.ite t a b).w χ Γ φ = t.w χ Γ fun k => (k = true → a.w χ Γ φ) ∧ (k = false → b.w χ Γ φ) := rfl
theorem w_none {ω : Option Int → Prop} : (WO.none (K := K) (E := E)).w χ Γ ω = ω none := rfl
theorem w_some {ω : Option Int → Prop} : (WO.some a).w χ Γ ω = a.w χ Γ fun d => ∃ i, d = .int i ∧ ω (some i) := rfl
theorem w_sl {lo hi : WO K E} : (WE.sl a lo hi).w χ Γ φ = a.w χ Γ fun d => lo.w χ Γ fun l => hi.w χ Γ fun h => d.seq = true ∧ φ (d.cut l h) := rfl
theorem w_cb {o : ON K} {r : WA K E} : (WE.cb o r).w χ Γ φ = r.w χ Γ fun ds => o.w ds φ := rfl
theorem w_isi {T : String} {h : T ∈ isiTys} : (WE.isi T a h).w χ Γ φ = a.w χ Γ fun d => d.builtin = true ∧ φ (.bl (isiB d T)) := rfl
theorem w_isi2 {T U : String} {h : T ∈ isiTys} {h2 : U ∈ isiTys} : (WE.isi2 T U a h h2).w χ Γ φ = a.w χ Γ fun d => d.builtin = true ∧ φ (.bl (isiB d T || isiB d U)) := rfl
theorem w_call {pre : List D → Prop} {post : List D → D → Prop} {r : WA K E} : (WE.call pre post r).w χ Γ φ = r.w χ Γ fun ds => pre ds ∧ ∀ d, post ds d → φ d := rfl
theorem w_callD {dvs : List V} {des : List D} {pre : List D → Prop} {post : List D → D → Prop} {hd : ∀ H, Reps K H dvs des} {r : WA K E} : (WE.callD (des := des) pre post hd r).w χ Γ φ = r.w χ Γ fun ds => pre (ds ++ des) ∧ ∀ d, post (ds ++ des) d → φ d := rfl
theorem w_callX {pre : List D → Prop} {post : List D → D → Prop} {χ' : List D → Xq} {r : WA K E} : (WE.callX pre post χ' r).w χ Γ φ = r.w χ Γ fun ds => pre ds ∧ (∀ d, post ds d → φ d) ∧ ∀ C fs, χ' ds C fs → χ C fs := rfl
theorem w_callG {k : Nat} {pre : List D → Prop} {post : List D → D → Prop} {i : Nat} {r : WA K E} : (WE.callG k pre post i r).w χ Γ φ = (PenIs Γ i ∧ r.w χ Γ fun ds => pre ds ∧ ∀ d, post ds d → φ d) := rfl
theorem w_split : (WE.split a b).w χ Γ φ = a.w χ Γ fun x => ∃ z, x = .str z ∧ b.w χ Γ fun y => ∃ u, y = .str u ∧ (u.length == 0) = false ∧ z.length ≤ 1000000 ∧ φ (.lst ((Txt.split z u).map .str)) := rfl
def GetD (x y : D) (φ : D → Prop) : Prop := match x with | .dct ks ds => ∃ j d, y = keyD j ∧ valD ks ds j = some d ∧ φ d | _ => False
theorem w_dget : (WE.dget a b).w χ Γ φ = a.w χ Γ fun x => b.w χ Γ fun y => GetD x y φ := rfl
theorem getD_str {ks : List Key} {ds : List D} {s : Str} {d : D} (h : valD ks ds (.inr s) = some d) (f : φ d) : GetD (.dct ks ds) (.str s) φ := ⟨.inr s, d, rfl, h, f⟩
theorem w_dnil : (WD.nil (K := K) (E := E)).w χ Γ ξ = ξ [] := rfl
theorem w_dcons {k : Str} {r : WD K E} : (WD.cons k a r).w χ Γ ξ = a.w χ Γ fun d => r.w χ Γ fun ds => ξ (d :: ds) := rfl
theorem ks_nil : (WD.nil (K := K) (E := E)).ks = [] := rfl
theorem ks_cons {k : Str} {r : WD K E} : (WD.cons k a r).ks = .inr k :: r.ks := rfl
theorem w_disp {r : WD K E} {hn : r.ks.Nodup} {hl : r.ks.length ≤ 15} : (WE.disp r hn hl).w χ Γ φ = r.w χ Γ fun ds => φ (.dct r.ks ds) := rfl
theorem w_seqI : (WI.seq a).w χ Γ ξ = a.w χ Γ fun d => ∃ ds, itemsOf d = some ds ∧ ξ ds := rfl
theorem w_rng1 {r : WA K E} : (WI.rng1 r).w χ Γ ξ = r.w χ Γ fun ds => ∃ n, ds = [.int n] ∧ (-(2 ^ 62) ≤ n ∧ n < 2 ^ 62) ∧ ξ (rngD 0 n.toNat) := rfl
theorem w_rng2 {r : WA K E} : (WI.rng2 r).w χ Γ ξ = r.w χ Γ fun ds => ∃ i n, ds = [.int i, .int n] ∧ (-(2 ^ 62) ≤ i ∧ i < 2 ^ 62 ∧ -(2 ^ 62) ≤ n ∧ n < 2 ^ 62) ∧ ξ (rngD i (n - i).toNat) := rfl
theorem w_enum {r : WA K E} : (WI.enum r).w χ Γ ξ = r.w χ Γ fun as => ∃ ds, as = [.lst ds] ∧ ξ (enumD ds) := rfl
theorem w_zip {r : WA K E} : (WI.zip r).w χ Γ ξ = r.w χ Γ fun as => ∃ ds es, (as = [.lst ds, .lst es] ∨ as = [.tup ds, .tup es]) ∧ ξ (zipD ds es) := rfl
theorem w_lc {wi : WI K E} {g : WG K} {L : Nat} {hz : L < 1000000} : (WE.lc wi g t a L hz).w χ Γ φ = wi.w χ Γ fun ds => LcP g t a χ Γ L ds φ := rfl
theorem w_borrow {i : Nat} : (WE.borrow i a).w χ Γ φ = OwnAt Γ i fun ds => a.w noX (Γ.set i (.dat (.lst ds))) fun d => scalar d = true ∧ φ d := rfl
theorem w_up : (WM.up a).w χ Γ Φ = a.w χ Γ fun d => Φ d Γ := rfl
theorem w_popAt {i : Nat} : (WM.popAt i a).w χ Γ Φ = OwnAt Γ i fun ds => a.w χ Γ fun d => ∃ (k : Nat) (x : D), d = .int (k : Int) ∧ ds[k]? = some x ∧ k < 1000000 ∧ Φ x (Γ.set i (.own (ds.eraseIdx k))) := rfl
theorem w_next : (WS.next (K := K) (E := E)).w χ Γ W = W.N Γ := rfl
theorem w_brk : (WS.brk (K := K) (E := E)).w χ Γ W = W.B Γ := rfl
theorem w_cont : (WS.cont (K := K) (E := E)).w χ Γ W = W.C Γ := rfl
theorem w_seq {p q : WS K E} : (WS.seq p q).w χ Γ W = p.w χ Γ { N := fun G => q.w χ G W, R := W.R, B := W.B, C := W.C } := rfl
theorem w_ret {e : WM K E} : (WS.ret e).w χ Γ W = e.w χ Γ fun d _ => W.R d := rfl
theorem w_retN : (WS.retN (K := K) (E := E)).w χ Γ W = W.R .non := rfl
theorem w_asg {j : Nat} {e : WM K E} : (WS.asg j e).w χ Γ W = e.w χ Γ fun d G => W.N (G.set j (.dat d)) := rfl
theorem w_asgT {g : WG K} : (WS.asgT g a).w χ Γ W = a.w χ Γ fun d => ∃ l, g.ps d = some l ∧ W.N (setD Γ l) := rfl
theorem w_asgOwn {j : Nat} {r : WA K E} : (WS.asgOwn j r).w χ Γ W = r.w χ Γ fun ds => ds.length ≤ 1000 ∧ W.N (Γ.set j (.own ds)) := rfl
theorem w_drop {e : WM K E} : (WS.drop e).w χ Γ W = e.w χ Γ fun _ G => W.N G := rfl
theorem w_ifS {p q : WS K E} : (WS.ifS t p q).w χ Γ W = t.w χ Γ fun k => (k = true → p.w χ Γ W) ∧ (k = false → q.w χ Γ W) := rfl
theorem w_frzO {i : Nat} {p : WS K E} {ds : List D} (h : OwnAt Γ i (· = ds)) : (WS.frz i p).w χ Γ W = p.w χ (Γ.set i (.dat (.lst ds))) W := by
  unfold OwnAt at h
  split at h
  · rename_i e
    subst h
    show (match Γ[i]? with | some (.own ds) => p.w χ (Γ.set i (.dat (.lst ds))) W | _ => p.w χ Γ W) = _
    rw [e]
  · exact h.elim
def FrzAt (Γ : List Sk) (i : Nat) (k : List Sk → Prop) : Prop := match Γ[i]? with | some (.own ds) => k (Γ.set i (.dat (.lst ds))) | _ => k Γ
theorem w_frz {i : Nat} {p : WS K E} : (WS.frz i p).w χ Γ W = FrzAt Γ i fun G => p.w χ G W := rfl
theorem frzAt_0 {k : List Sk → Prop} {ds : List D} : FrzAt (.own ds :: Γ) 0 k = k (.dat (.lst ds) :: Γ) := rfl
theorem frzAt_d {k : List Sk → Prop} {d : D} : FrzAt (.dat d :: Γ) 0 k = k (.dat d :: Γ) := rfl
theorem frzAt_u {k : List Sk → Prop} : FrzAt (.un :: Γ) 0 k = k (.un :: Γ) := rfl
theorem frzAt_s {k : List Sk → Prop} {s : Sk} {i : Nat} : FrzAt (s :: Γ) (i + 1) k = FrzAt Γ i fun G => k (s :: G) := by
  unfold FrzAt
  rw [List.getElem?_cons_succ]
  cases h : Γ[i]? with
  | none => rfl
  | some q => cases q <;> rfl
theorem w_append {i : Nat} {e : WM K E} : (WS.append i e).w χ Γ W = ((∃ ds, Γ[i]? = some (.own ds)) ∧ e.w χ Γ fun d G => OwnAt G i fun ds => ds.length < 1000000 ∧ W.N (G.set i (.own (ds ++ [d])))) := rfl
theorem w_forS {wi : WI K E} {g : WG K} {p : WS K E} {L : Nat} : (WS.forS wi g p L).w χ Γ W = wi.w χ Γ fun ds => ForP g p χ Γ L W ds := rfl
theorem w_par {i j : Nat} : (WS.par i j a b).w χ Γ W = a.w χ Γ fun x => b.w χ Γ fun y => W.N ((Γ.set i (.dat x)).set j (.dat y)) := rfl
theorem w_parLE {i j : Nat} : (WS.parLE i j a).w χ Γ W = a.w χ Γ fun x => ∃ ds, x.its = some ds ∧ W.N ((Γ.set i (.own ds)).set j (.own [])) := rfl
/-! operations -/
section
variable {i j : Int} {s z : Str} {ds es : List D} {g : Int → Int → Int} {f : Int → Int → Bool} {C : Int → Int → Prop}
theorem q_int : (O2.int (K := K) g).w (.int i) (.int j) φ = φ (.int (g i j)) := rfl
theorem q_cmp : (O2.cmp (K := K) f).w (.int i) (.int j) φ = φ (.bl (f i j)) := rfl
theorem q_intC : (O2.intC (K := K) C g).w (.int i) (.int j) φ = (C i j ∧ φ (.int (g i j))) := rfl
theorem q_addI : (O2.add (K := K)).w (.int i) (.int j) φ = φ (.int (i + j)) := rfl
theorem q_addS : (O2.add (K := K)).w (.str s) (.str z) φ = (s.length + z.length ≤ 1000000 ∧ φ (.str (s ++ z))) := rfl
theorem q_addT : (O2.add (K := K)).w (.tup ds) (.tup es) φ = (ds.length + es.length ≤ 1000000 ∧ φ (.tup (ds ++ es))) := rfl
theorem q_addL : (O2.add (K := K)).w (.lst ds) (.lst es) φ = (ds.length + es.length ≤ 1000000 ∧ φ (.lst (ds ++ es))) := rfl
theorem q_mulI : (O2.mul (K := K)).w (.int i) (.int j) φ = (CMul i j ∧ φ (.int (i * j))) := rfl
theorem q_mulS : (O2.mul (K := K)).w (.str s) (.int j) φ = ((0 ≤ j ∧ j ≤ 1000 ∧ s.length ≤ 1000) ∧ φ (.str (Txt.mul s j))) := rfl
theorem q_mulL : (O2.mul (K := K)).w (.lst ds) (.int j) φ = ((0 ≤ j ∧ j ≤ 1000 ∧ ds.length ≤ 1000) ∧ φ (.lst (List.replicate j.toNat ds).flatten)) := rfl
theorem q_eq : (O2.eq (K := K)).w x y φ = (x.ok = true ∧ y.ok = true ∧ φ (.bl (x.eqv y))) := rfl
theorem q_ne : (O2.ne (K := K)).w x y φ = (x.ok = true ∧ y.ok = true ∧ φ (.bl (!x.eqv y))) := rfl
theorem q_isN : (O2.isU (K := K)).w x .non φ = φ (.bl x.isNon) := rfl
theorem q_isB {k : Bool} : (O2.isU (K := K)).w x (.bl k) φ = φ (.bl (x.isBl k)) := rfl
theorem q_notN : (O2.notU (K := K)).w x .non φ = φ (.bl (!x.isNon)) := rfl
theorem q_inT : (O2.inn (K := K)).w x (.tup ds) φ = (x.flat = true ∧ ds.all D.flat = true ∧ φ (.bl (inD x ds))) := rfl
theorem q_inL : (O2.inn (K := K)).w x (.lst ds) φ = (x.flat = true ∧ ds.all D.flat = true ∧ φ (.bl (inD x ds))) := rfl
theorem q_inS : (O2.inn (K := K)).w x (.str z) φ = (∃ k, x.sign = some k ∧ φ (.bl (decide (k ∈ z.cps.toList)))) := rfl
theorem q_ninT : (O2.nin (K := K)).w x (.tup ds) φ = (x.flat = true ∧ ds.all D.flat = true ∧ φ (.bl (!inD x ds))) := rfl
theorem q_ninL : (O2.nin (K := K)).w x (.lst ds) φ = (x.flat = true ∧ ds.all D.flat = true ∧ φ (.bl (!inD x ds))) := rfl
theorem q_ninS : (O2.nin (K := K)).w x (.str z) φ = (∃ k, x.sign = some k ∧ φ (.bl (!decide (k ∈ z.cps.toList)))) := rfl
theorem q_ixL : (O2.ix (K := K)).w (.lst ds) (.int i) φ = (∃ d, atI ds i = some d ∧ φ d) := rfl
theorem q_ixT : (O2.ix (K := K)).w (.tup ds) (.int i) φ = (∃ d, atI ds i = some d ∧ φ d) := rfl
theorem q_ixS : (O2.ix (K := K)).w (.str z) (.int i) φ = (∃ k, atI z.cps.toList i = some k ∧ z.length ≤ 1000000 ∧ φ (.str ⟨#[k]⟩)) := rfl
theorem n_len : (ON.len (K := K)).w [x] φ = (∃ k : Nat, x.len = some k ∧ φ (.int (k : Int))) := rfl
theorem n_list : (ON.list (K := K)).w [x] φ = (∃ ds, x.its = some ds ∧ φ (.lst ds)) := rfl
theorem n_tuple : (ON.tuple (K := K)).w [x] φ = (∃ ds, x.its = some ds ∧ φ (.tup ds)) := rfl
theorem n_all : (ON.all (K := K)).w [.lst ds] φ = (ds.all D.isB = true ∧ φ (.bl (ds.all D.tt))) := rfl
theorem n_any : (ON.any (K := K)).w [.lst ds] φ = (ds.all D.isB = true ∧ φ (.bl (ds.any D.tt))) := rfl
theorem n_sum : (ON.sum (K := K)).w [.lst ds] φ = (ds.all D.isI = true ∧ φ (.int (ds.map D.toI).sum)) := rfl
theorem n_sortedS : (ON.sortedS (K := K)).w [.lst ds] φ = (ds.all D.isS = true ∧ ds.length < 64 ∧ ∀ ys : List Str, ys.Perm (ds.map D.toS) → PyProof.Rows.sortedS ys = true → φ (.lst (ys.map D.str))) := rfl
theorem n_min2 : (ON.min2 (K := K)).w [.int i, .int j] φ = φ (.int (if j < i then j else i)) := rfl
theorem n_max2 : (ON.max2 (K := K)).w [.int i, .int j] φ = φ (.int (if j > i then j else i)) := rfl
theorem n_int1 : (ON.int1 (K := K)).w [.int i] φ = φ (.int i) := rfl
theorem n_strI : (ON.strI (K := K)).w [.int i] φ = (i.natAbs.log2 < 1920 ∧ φ (.str (toString i))) := rfl
theorem n_repr : (ON.repr (K := K)).w [x] φ = (GD 64 16000000 x ∧ φ (.str x.py.shown)) := rfl
end
theorem g_name {i : Nat} : (WG.name (K := K) i).ps x = some [(i, x)] := rfl
/-! comprehensions, loops -/
theorem LcP.map {g : WG K} {L : Nat} {ds : List D} (f : D → D) (hl : ds.length ≤ L) (h : ∀ d ∈ ds, ∃ ps, g.ps d = some ps ∧ a.w χ (setD (wipeG Γ g.is) ps) (· = f d)) (k : φ (.lst (ds.map f))) : LcP g WT.yes a χ Γ L ds φ :=
  ⟨hl, fun d k => k = true, fun d e => e = f d, fun d hd => by obtain ⟨ps, h1, h2⟩ := h d hd; exact ⟨ps, h1, rfl, fun _ => h2⟩, fun es c => by
    rw [c.exact (b := fun _ => true) (f := f) (fun _ _ z => z) fun _ _ z => z, List.filter_eq_self.mpr fun _ _ => rfl]; exact k⟩
theorem LcP.filt {g : WG K} {L : Nat} {ds : List D} (b : D → Bool) (f : D → D) (hl : ds.length ≤ L) (h : ∀ d ∈ ds, ∃ ps, g.ps d = some ps ∧ t.w χ (setD (wipeG Γ g.is) ps) (· = b d) ∧ (b d = true → a.w χ (setD (wipeG Γ g.is) ps) (· = f d))) (k : φ (.lst ((ds.filter b).map f))) : LcP g t a χ Γ L ds φ :=
  ⟨hl, fun d k => k = b d, fun d e => e = f d, fun d hd => by
    obtain ⟨ps, h1, h2, h3⟩ := h d hd
    exact ⟨ps, h1, h2, fun z => h3 z.symm⟩, fun es c => by
    rw [c.exact (b := b) (f := f) (fun _ _ z => z) fun _ _ z => z]; exact k⟩
/-- each one is of a kind -/
theorem LcP.each {g : WG K} {L : Nat} {ds : List D} (F : D → Prop) (hl : ds.length ≤ L) (h : ∀ d ∈ ds, ∃ ps, g.ps d = some ps ∧ a.w χ (setD (wipeG Γ g.is) ps) F) (k : ∀ es : List D, es.length = ds.length → (∀ e ∈ es, F e) → φ (.lst es)) : LcP g WT.yes a χ Γ L ds φ :=
  ⟨hl, fun d k => k = true, fun d e => F e, fun d hd => by obtain ⟨ps, h1, h2⟩ := h d hd; exact ⟨ps, h1, rfl, fun _ => h2⟩, fun es c => k es (c.len_eq fun _ z => by cases z) (c.all fun _ _ z => z)⟩
theorem ForP.of {g : WG K} {p : WS K E} {L : Nat} {ds : List D} (Iv : Nat → List Sk → Prop) (hl : ds.length ≤ L) (h0 : Iv 0 Γ) (hs : ∀ i d Γ', ds[i]? = some d → Iv i Γ' → ∃ ps, g.ps d = some ps ∧ p.w χ (setD Γ' ps) { N := Iv (i + 1), C := Iv (i + 1), B := W.N, R := W.R }) (hd : ∀ Γ', Iv ds.length Γ' → W.N Γ') : ForP g p χ Γ L W ds := ⟨hl, Iv, h0, hs, hd⟩
end
theorem un66 {k : Nat} {A : Around} (r : Room k A) : A.units + 66 < cLine := by have := r.un; omega
/-! data that is known -/
def D.isT : D → Bool
  | .tup _ => true | _ => false
def D.isL : D → Bool
  | .lst _ => true | _ => false
theorem isi_str {d : D} : isiB d "str" = d.isS := by cases d <;> rfl
theorem isi_int {d : D} : isiB d "int" = (d.isI || d.isB) := by cases d <;> rfl
theorem isi_bool {d : D} : isiB d "bool" = d.isB := by cases d <;> rfl
theorem isi_tuple {d : D} : isiB d "tuple" = d.isT := by cases d <;> rfl
theorem isi_list {d : D} : isiB d "list" = d.isL := by cases d <;> rfl
theorem ok_int {s : Int} : (D.int s).ok = true := rfl
theorem ok_bl {s : Bool} : (D.bl s).ok = true := rfl
theorem ok_non : D.non.ok = true := rfl
theorem eqv_str {s z : Str} : (D.str s).eqv (.str z) = decide (s = z) := by
  show PyData.eqv (.str s) (.str z) = _
  unfold PyData.eqv; rfl
theorem eqv_int {s z : Int} : (D.int s).eqv (.int z) = decide (s = z) := by
  show PyData.eqv (.int s) (.int z) = _
  unfold PyData.eqv; rfl
theorem setD_nil {Γ : List Sk} : setD Γ [] = Γ := rfl
theorem setD_cons {Γ : List Sk} {i : Nat} {d : D} {l : List (Nat × D)} : setD Γ ((i, d) :: l) = setD (Γ.set i (.dat d)) l := rfl
@[simp] theorem isS_non : D.non.isS = false := rfl
@[simp] theorem isS_bl {b : Bool} : (D.bl b).isS = false := rfl
@[simp] theorem isS_int {i : Int} : (D.int i).isS = false := rfl
@[simp] theorem isS_str {s : Str} : (D.str s).isS = true := rfl
@[simp] theorem isS_lst {l : List D} : (D.lst l).isS = false := rfl
@[simp] theorem isS_tup {l : List D} : (D.tup l).isS = false := rfl
@[simp] theorem isS_dct {k : List Key} {l : List D} : (D.dct k l).isS = false := rfl
@[simp] theorem isS_obj {C : Addr} {n : List Str} {l : List D} : (D.obj C n l).isS = false := rfl
@[simp] theorem isS_exc {C x : Addr} {n : List Str} {l : List D} : (D.exc C x n l).isS = false := rfl
@[simp] theorem isS_err {C : Addr} {n : List Str} {l : List D} : (D.err C n l).isS = false := rfl
@[simp] theorem isS_ptr {x : Addr} : (D.ptr x).isS = false := rfl
@[simp] theorem isI_non : D.non.isI = false := rfl
@[simp] theorem isI_bl {b : Bool} : (D.bl b).isI = false := rfl
@[simp] theorem isI_int {i : Int} : (D.int i).isI = true := rfl
@[simp] theorem isI_str {s : Str} : (D.str s).isI = false := rfl
@[simp] theorem isI_lst {l : List D} : (D.lst l).isI = false := rfl
@[simp] theorem isI_tup {l : List D} : (D.tup l).isI = false := rfl
@[simp] theorem isI_dct {k : List Key} {l : List D} : (D.dct k l).isI = false := rfl
@[simp] theorem isI_obj {C : Addr} {n : List Str} {l : List D} : (D.obj C n l).isI = false := rfl
@[simp] theorem isI_exc {C x : Addr} {n : List Str} {l : List D} : (D.exc C x n l).isI = false := rfl
@[simp] theorem isI_err {C : Addr} {n : List Str} {l : List D} : (D.err C n l).isI = false := rfl
@[simp] theorem isI_ptr {x : Addr} : (D.ptr x).isI = false := rfl
@[simp] theorem isB_non : D.non.isB = false := rfl
@[simp] theorem isB_bl {b : Bool} : (D.bl b).isB = true := rfl
@[simp] theorem isB_int {i : Int} : (D.int i).isB = false := rfl
@[simp] theorem isB_str {s : Str} : (D.str s).isB = false := rfl
@[simp] theorem isB_lst {l : List D} : (D.lst l).isB = false := rfl
@[simp] theorem isB_tup {l : List D} : (D.tup l).isB = false := rfl
@[simp] theorem isB_dct {k : List Key} {l : List D} : (D.dct k l).isB = false := rfl
@[simp] theorem isB_obj {C : Addr} {n : List Str} {l : List D} : (D.obj C n l).isB = false := rfl
@[simp] theorem isB_exc {C x : Addr} {n : List Str} {l : List D} : (D.exc C x n l).isB = false := rfl
@[simp] theorem isB_err {C : Addr} {n : List Str} {l : List D} : (D.err C n l).isB = false := rfl
@[simp] theorem isB_ptr {x : Addr} : (D.ptr x).isB = false := rfl
@[simp] theorem isT_non : D.non.isT = false := rfl
@[simp] theorem isT_bl {b : Bool} : (D.bl b).isT = false := rfl
@[simp] theorem isT_int {i : Int} : (D.int i).isT = false := rfl
@[simp] theorem isT_str {s : Str} : (D.str s).isT = false := rfl
@[simp] theorem isT_lst {l : List D} : (D.lst l).isT = false := rfl
@[simp] theorem isT_tup {l : List D} : (D.tup l).isT = true := rfl
@[simp] theorem isT_dct {k : List Key} {l : List D} : (D.dct k l).isT = false := rfl
@[simp] theorem isT_obj {C : Addr} {n : List Str} {l : List D} : (D.obj C n l).isT = false := rfl
@[simp] theorem isT_exc {C x : Addr} {n : List Str} {l : List D} : (D.exc C x n l).isT = false := rfl
@[simp] theorem isT_err {C : Addr} {n : List Str} {l : List D} : (D.err C n l).isT = false := rfl
@[simp] theorem isT_ptr {x : Addr} : (D.ptr x).isT = false := rfl
@[simp] theorem isL_non : D.non.isL = false := rfl
@[simp] theorem isL_bl {b : Bool} : (D.bl b).isL = false := rfl
@[simp] theorem isL_int {i : Int} : (D.int i).isL = false := rfl
@[simp] theorem isL_str {s : Str} : (D.str s).isL = false := rfl
@[simp] theorem isL_lst {l : List D} : (D.lst l).isL = true := rfl
@[simp] theorem isL_tup {l : List D} : (D.tup l).isL = false := rfl
@[simp] theorem isL_dct {k : List Key} {l : List D} : (D.dct k l).isL = false := rfl
@[simp] theorem isL_obj {C : Addr} {n : List Str} {l : List D} : (D.obj C n l).isL = false := rfl
@[simp] theorem isL_exc {C x : Addr} {n : List Str} {l : List D} : (D.exc C x n l).isL = false := rfl
@[simp] theorem isL_err {C : Addr} {n : List Str} {l : List D} : (D.err C n l).isL = false := rfl
@[simp] theorem isL_ptr {x : Addr} : (D.ptr x).isL = false := rfl
@[simp] theorem isNon_non : D.non.isNon = true := rfl
@[simp] theorem isNon_bl {b : Bool} : (D.bl b).isNon = false := rfl
@[simp] theorem isNon_int {i : Int} : (D.int i).isNon = false := rfl
@[simp] theorem isNon_str {s : Str} : (D.str s).isNon = false := rfl
@[simp] theorem isNon_lst {l : List D} : (D.lst l).isNon = false := rfl
@[simp] theorem isNon_tup {l : List D} : (D.tup l).isNon = false := rfl
@[simp] theorem isNon_dct {k : List Key} {l : List D} : (D.dct k l).isNon = false := rfl
@[simp] theorem isNon_obj {C : Addr} {n : List Str} {l : List D} : (D.obj C n l).isNon = false := rfl
@[simp] theorem isNon_exc {C x : Addr} {n : List Str} {l : List D} : (D.exc C x n l).isNon = false := rfl
@[simp] theorem isNon_err {C : Addr} {n : List Str} {l : List D} : (D.err C n l).isNon = false := rfl
@[simp] theorem isNon_ptr {x : Addr} : (D.ptr x).isNon = false := rfl
@[simp] theorem isBl_non {q : Bool} : D.non.isBl q = false := rfl
@[simp] theorem isBl_int {i : Int} {q : Bool} : (D.int i).isBl q = false := rfl
@[simp] theorem isBl_str {s : Str} {q : Bool} : (D.str s).isBl q = false := rfl
@[simp] theorem isBl_lst {l : List D} {q : Bool} : (D.lst l).isBl q = false := rfl
@[simp] theorem isBl_tup {l : List D} {q : Bool} : (D.tup l).isBl q = false := rfl
@[simp] theorem isBl_dct {k : List Key} {l : List D} {q : Bool} : (D.dct k l).isBl q = false := rfl
@[simp] theorem isBl_obj {C : Addr} {n : List Str} {l : List D} {q : Bool} : (D.obj C n l).isBl q = false := rfl
@[simp] theorem isBl_exc {C x : Addr} {n : List Str} {l : List D} {q : Bool} : (D.exc C x n l).isBl q = false := rfl
@[simp] theorem isBl_err {C : Addr} {n : List Str} {l : List D} {q : Bool} : (D.err C n l).isBl q = false := rfl
@[simp] theorem isBl_ptr {x : Addr} {q : Bool} : (D.ptr x).isBl q = false := rfl
@[simp] theorem isBl_bl {b k : Bool} : (D.bl b).isBl k = (b == k) := rfl
@[simp] theorem builtin_non : D.non.builtin = true := rfl
@[simp] theorem builtin_bl {b : Bool} : (D.bl b).builtin = true := rfl
@[simp] theorem builtin_int {i : Int} : (D.int i).builtin = true := rfl
@[simp] theorem builtin_str {s : Str} : (D.str s).builtin = true := rfl
@[simp] theorem builtin_lst {l : List D} : (D.lst l).builtin = true := rfl
@[simp] theorem builtin_tup {l : List D} : (D.tup l).builtin = true := rfl
@[simp] theorem builtin_dct {k : List Key} {l : List D} : (D.dct k l).builtin = true := rfl
@[simp] theorem builtin_obj {C : Addr} {n : List Str} {l : List D} : (D.obj C n l).builtin = false := rfl
@[simp] theorem builtin_exc {C x : Addr} {n : List Str} {l : List D} : (D.exc C x n l).builtin = false := rfl
@[simp] theorem builtin_err {C : Addr} {n : List Str} {l : List D} : (D.err C n l).builtin = false := rfl
@[simp] theorem builtin_ptr {x : Addr} : (D.ptr x).builtin = false := rfl
@[simp] theorem len_tup {l : List D} : (D.tup l).len = some l.length := rfl
@[simp] theorem len_lst {l : List D} : (D.lst l).len = some l.length := rfl
theorem len_str {s : Str} (h : s.length ≤ 1000000) : (D.str s).len = some s.length := if_pos h
@[simp] theorem its_tup {l : List D} : (D.tup l).its = some l := rfl
@[simp] theorem its_lst {l : List D} : (D.lst l).its = some l := rfl
@[simp] theorem itemsOf_tup {l : List D} : itemsOf (D.tup l) = some l := rfl
@[simp] theorem itemsOf_lst {l : List D} : itemsOf (D.lst l) = some l := rfl
@[simp] theorem itemsOf_str {s : Str} : itemsOf (D.str s) = some (DL.signs s) := rfl
@[simp] theorem tt_bl {b : Bool} : (D.bl b).tt = b := rfl
@[simp] theorem toI_int {i : Int} : (D.int i).toI = i := rfl
@[simp] theorem toS_str {s : Str} : (D.str s).toS = s := rfl
@[simp] theorem signs_length {s : Str} : (DL.signs s).length = s.length := by unfold DL.signs; rw [List.length_map]; rfl
theorem mem_signs {d : D} {z : Str} (h : d ∈ DL.signs z) : ∃ k, k ∈ z.cps.toList ∧ d = .str ⟨#[k]⟩ := by
  unfold DL.signs at h
  obtain ⟨k, hk, e⟩ := List.mem_map.mp h
  exact ⟨k, hk, e.symm⟩
@[simp] theorem is_name {K : PySem.W.Frag} {i : Nat} : (WG.name (K := K) i).is = [i] := rfl
theorem atI_nat {α : Type} {l : List α} {i : Int} (h0 : 0 ≤ i) : atI l i = l[i.toNat]? := by
  unfold atI
  cases h : ixN l.length i with
  | none =>
    unfold ixN at h
    rw [if_pos h0] at h
    split at h
    · cases h
    · rw [List.getElem?_eq_none (by omega)]; rfl
  | some j =>
    unfold ixN at h
    rw [if_pos h0] at h
    split at h
    · cases h; rfl
    · cases h
@[simp] theorem atI_0 {α : Type} {l : List α} : atI l 0 = l[0]? := atI_nat (by decide)
@[simp] theorem atI_1 {α : Type} {l : List α} : atI l 1 = l[1]? := atI_nat (by decide)
@[simp] theorem atI_2 {α : Type} {l : List α} : atI l 2 = l[2]? := atI_nat (by decide)
@[simp] theorem atI_3 {α : Type} {l : List α} : atI l 3 = l[3]? := atI_nat (by decide)
@[simp] theorem atI_neg1 {α : Type} {l : List α} {a : α} : atI (l ++ [a]) (-1) = some a := by
  unfold atI ixN
  rw [if_neg (by decide), if_pos (by simp; omega)]
  have e : ((-1 : Int) + ((l ++ [a]).length : Int)).toNat = l.length := by simp; omega
  show (l ++ [a])[((-1 : Int) + ((l ++ [a]).length : Int)).toNat]? = some a
  rw [e]; simp
theorem cutD_from {ds : List D} {n : Nat} : cutD ds (some (n : Int)) none = ds.drop n := by
  unfold cutD
  rw [HT.sIx_nat, HT.sIx_none]
  rw [List.take_of_length_le (by rw [List.length_drop]; omega)]
  by_cases h : n ≤ ds.length
  · rw [Nat.min_eq_left h]
  · rw [Nat.min_eq_right (by omega), List.drop_length, List.drop_of_length_le (by omega)]
theorem cutD_to {ds : List D} {n : Nat} : cutD ds none (some (n : Int)) = ds.take n := by
  unfold cutD
  rw [HT.sIx_nat, HT.sIx_none, List.drop_zero, Nat.sub_zero]
  by_cases h : n ≤ ds.length
  · rw [Nat.min_eq_left h]
  · rw [Nat.min_eq_right (by omega), List.take_length, List.take_of_length_le (by omega)]
theorem cutD_mid {ds : List D} {n m : Nat} : cutD ds (some (n : Int)) (some (m : Int)) = (ds.take m).drop n := by
  unfold cutD
  rw [HT.sIx_nat, HT.sIx_nat]
  apply List.ext_getElem?
  intro i
  simp [List.getElem?_take, List.getElem?_drop]
  by_cases h1 : n + i < ds.length
  · by_cases h2 : n + i < m
    · rw [if_pos (by omega), if_pos (by omega), Nat.min_eq_left (by omega)]
    · rw [if_neg (by omega), if_neg (by omega)]
  · have e : ds[n + i]? = none := List.getElem?_eq_none (by omega)
    have e2 : ds[min n ds.length + i]? = none := by
      by_cases h : n ≤ ds.length
      · rw [Nat.min_eq_left h]; exact e
      · rw [Nat.min_eq_right (by omega)]; exact List.getElem?_eq_none (by omega)
    rw [e, e2]; simp
@[simp] theorem cutD_1 {ds : List D} : cutD ds (some 1) none = ds.drop 1 := cutD_from (n := 1)
@[simp] theorem cutD_2 {ds : List D} : cutD ds (some 2) none = ds.drop 2 := cutD_from (n := 2)
@[simp] theorem cutD_t1 {ds : List D} : cutD ds none (some 1) = ds.take 1 := cutD_to (n := 1)
@[simp] theorem cutD_t2 {ds : List D} : cutD ds none (some 2) = ds.take 2 := cutD_to (n := 2)
@[simp] theorem cutD_t3 {ds : List D} : cutD ds none (some 3) = ds.take 3 := cutD_to (n := 3)
@[simp] theorem cutD_13 {ds : List D} : cutD ds (some 1) (some 3) = (ds.take 3).drop 1 := cutD_mid (n := 1) (m := 3)
@[simp] theorem flat_str {s : Str} : (D.str s).flat = true := rfl
@[simp] theorem flat_int {s : Int} : (D.int s).flat = true := rfl
theorem inD1 {z a : Str} : inD (.str z) [.str a] = decide (z = a) := by
  simp only [inD, inV, D.v, eqV, List.map, List.any, Bool.or_false]
  rw [Bool.eq_iff_iff]; simp only [beq_iff_eq, decide_eq_true_eq]; exact ⟨Eq.symm, Eq.symm⟩
theorem inD_cons {z a : Str} {ds : List D} : inD (.str z) (.str a :: ds) = (decide (z = a) || inD (.str z) ds) := by
  simp only [inD, inV, D.v, eqV, List.map, List.any]
  congr 1
  rw [Bool.eq_iff_iff]; simp only [beq_iff_eq, decide_eq_true_eq]; exact ⟨Eq.symm, Eq.symm⟩
theorem inD_nil {x : D} : inD x [] = false := rfl
theorem okL {l : List D} {n : Nat} (h : ∀ d ∈ l, GD 63 n d) : (D.lst l).ok = true := (GDs.all h).lst.ok
theorem okT {l : List D} {n : Nat} (h : ∀ d ∈ l, GD 63 n d) : (D.tup l).ok = true := (GDs.all h).tup.ok
theorem ok_nil : (D.lst []).ok = true := okL (n := 0) fun _ h => nomatch h
theorem eqv_nil {l : List D} : (D.lst l).eqv (.lst []) = l.isEmpty := by
  show PyData.eqv (.list (D.pys l)) (.list (D.pys [])) = _
  unfold PyData.eqv
  cases l with
  | nil => rfl
  | cons d l => rfl
theorem sign_gd {z : Str} {c k n : Nat} (h : GD k n (.str z)) (hc : c ∈ z.cps.toList) : GD 63 12 (.str ⟨#[c]⟩) := by
  refine .str ?_ (by show 10 * 1 + 2 ≤ 12; decide)
  have e := h.strOk
  unfold PyData.strOk at e ⊢
  rw [← Array.all_toList, List.all_eq_true] at e
  simp only [List.all_toArray, List.all_cons, List.all_nil, Bool.and_true]
  exact e c hc
theorem inD_int {i a : Int} {ds : List D} : inD (.int i) (.int a :: ds) = (decide (i = a) || inD (.int i) ds) := by
  simp only [inD, inV, D.v, eqV, List.map, List.any]
  congr 1
  rw [Bool.eq_iff_iff]; simp only [beq_iff_eq, decide_eq_true_eq]; exact ⟨Eq.symm, Eq.symm⟩
theorem filter_empty {α β : Type} {l : List α} {b : α → Bool} {f : α → β} : ((l.filter b).map f).isEmpty = l.all fun a => !b a := by
  induction l with
  | nil => rfl
  | cons a l ih =>
    cases h : b a with
    | true => simp [h]
    | false => simp only [List.filter_cons, h, List.all_cons, Bool.not_false, Bool.true_and]; exact ih
theorem strOk_sub {x y : Str} (h : ∀ c ∈ x.cps.toList, c ∈ y.cps.toList) (k : PyData.strOk y = true) : PyData.strOk x = true := by
  unfold PyData.strOk at k ⊢
  rw [← Array.all_toList, List.all_eq_true] at k ⊢
  exact fun c hc => k c (h c hc)
theorem cut_tup {ds : List D} {lo hi : Option Int} : (D.tup ds).cut lo hi = .tup (cutD ds lo hi) := rfl
theorem cut_lst {ds : List D} {lo hi : Option Int} : (D.lst ds).cut lo hi = .lst (cutD ds lo hi) := rfl
theorem len_cps {z : Str} : z.cps.toList.length = z.length := rfl
section
variable {K : PySem.W.Frag} {E : XK} {χ : Xq} {Γ : List Sk}
theorem datAt_set {i : Nat} {s : Sk} {d : D} {φ : D → Prop} (h : i < Γ.length) (f : φ d) : DatAt ((Γ.set i s).set i (.dat d)) i φ := by
  unfold DatAt
  rw [List.getElem?_set_self (by simpa using h)]
  exact f
/-- [d for d in ds if not b(d)] == [] -/
theorem lc_not {i : Nat} {tt : WT K E} {ds : List D} {L n : Nat} (b : D → Bool) {B : Bool} (hl : ds.length ≤ L) (hi : i < Γ.length) (hg : ∀ d ∈ ds, GD 63 n d) (ht : ∀ d ∈ ds, tt.w χ (setD (wipeG Γ [i]) [(i, d)]) (· = !b d)) (hB : ds.all b = B) :
    LcP (WG.name i) tt (WE.var i) χ Γ L ds fun x => 0 ≤ 1000 ∧ x.ok = true ∧ (D.lst []).ok = true ∧ x.eqv (D.lst []) = B := by
  refine LcP.filt (fun d => !b d) id hl (fun d hd => ⟨_, rfl, ht d hd, fun _ => datAt_set hi rfl⟩) ⟨by decide, okL (n := n) fun d hd => ?_, ok_nil, ?_⟩
  · rw [List.map_id] at hd
    exact hg d (List.mem_filter.mp hd).1
  · rw [eqv_nil, filter_empty, ← hB]; simp
theorem lc_not2 {i : Nat} {tt : WT K E} {ds : List D} {L n : Nat} (b : D → Bool) {B : Bool} (hl : ds.length ≤ L) (hi : i < Γ.length) (hg : ∀ d ∈ ds, GD 63 n d) (ht : ∀ d ∈ ds, tt.w χ (setD (wipeG Γ [i]) [(i, d)]) (· = !b d)) (hB : ds.all b = B) :
    LcP (WG.name i) tt (WE.var i) χ Γ L ds fun x => x.ok = true ∧ (D.lst []).ok = true ∧ x.eqv (D.lst []) = B := by
  have h := lc_not (χ := χ) (Γ := Γ) (tt := tt) b hl hi hg ht hB
  obtain ⟨h1, T, F, h2, h3⟩ := h
  exact ⟨h1, T, F, h2, fun es c => (h3 es c).2⟩
end
theorem GV.it63 {ds : List D} (h : GV (.tup ds)) : ∀ d ∈ ds, GD 63 10000000 d := h.tups.mem
theorem GV.li63 {ds : List D} (h : GV (.lst ds)) : ∀ d ∈ ds, GD 63 10000000 d := h.lsts.mem
theorem its_len {d : D} {ds : List D} (h : d.its = some ds) : d.len = some ds.length := by
  cases d <;> first | (cases h; rfl) | cases h
theorem ix_its {K : PySem.W.Frag} {d : D} {ds : List D} {k : Int} {φ : D → Prop} (h : d.its = some ds) (k0 : 0 ≤ k) (k1 : k < (ds.length : Int)) (f : ∀ x ∈ ds, φ x) : (O2.ix (K := K)).w d (.int k) φ := by
  have e : ds[k.toNat]? = some (ds[k.toNat]'(by omega)) := List.getElem?_eq_getElem _
  cases d with
  | tup l => cases h; exact ⟨_, (atI_nat k0).trans e, f _ (List.getElem_mem _)⟩
  | lst l => cases h; exact ⟨_, (atI_nat k0).trans e, f _ (List.getElem_mem _)⟩
  | _ => cases h
theorem ix_strs {K : PySem.W.Frag} {z : Str} {k : Int} {φ : D → Prop} (hz : z.length ≤ 1000000) (k0 : 0 ≤ k) (k1 : k < (z.length : Int)) (f : ∀ c ∈ z.cps.toList, φ (.str ⟨#[c]⟩)) : (O2.ix (K := K)).w (.str z) (.int k) φ := by
  have hl : k.toNat < z.cps.toList.length := by rw [len_cps]; omega
  have e : z.cps.toList[k.toNat]? = some (z.cps.toList[k.toNat]'hl) := List.getElem?_eq_getElem _
  exact ⟨_, (atI_nat k0).trans e, hz, f _ (List.getElem_mem _)⟩
@[simp] theorem rngD_len {lo : Int} {n : Nat} : (rngD lo n).length = n := by simp [rngD]
theorem rngD_get {lo : Int} {n i : Nat} {d : D} (h : (rngD lo n)[i]? = some d) : i < n ∧ d = .int (lo + (i : Int)) := by
  unfold rngD at h
  rw [List.getElem?_map] at h
  cases e : (List.range n)[i]? with
  | none => rw [e] at h; cases h
  | some j =>
    rw [e] at h
    have := List.getElem?_eq_some_iff.mp e
    obtain ⟨h1, h2⟩ := this
    simp at h1 h2
    cases h
    exact ⟨h1, by rw [h2]⟩
theorem mem_rngD {lo : Int} {n : Nat} {d : D} (h : d ∈ rngD lo n) : ∃ i, i < n ∧ d = .int (lo + (i : Int)) := by
  unfold rngD at h
  obtain ⟨i, h1, h2⟩ := List.mem_map.mp h
  exact ⟨i, List.mem_range.mp h1, h2.symm⟩
theorem mem_erase {α : Type} {l : List α} {i : Nat} {x : α} (h : x ∈ l.eraseIdx i) : x ∈ l := List.mem_of_mem_eraseIdx h
/-! short texts -/
/-- a short text -/
def SO (n : Nat) (d : D) : Prop := ∃ z, d = .str z ∧ PyData.strOk z = true ∧ z.length ≤ n
theorem SO.gd {n k : Nat} {d : D} (h : SO n d) : GD k (10 * n + 2) d := by
  obtain ⟨z, rfl, h1, h2⟩ := h
  exact .str h1 (by omega)
theorem SO.mono {n m : Nat} {d : D} (h : SO n d) (e : n ≤ m) : SO m d := by
  obtain ⟨z, h0, h1, h2⟩ := h
  exact ⟨z, h0, h1, by omega⟩
theorem str_len_add {a b : Str} : (a ++ b).length = a.length + b.length := by
  show (a.cps ++ b.cps).size = _
  rw [Array.size_append]; rfl
theorem strOk_add {a b : Str} (h : PyData.strOk a = true) (k : PyData.strOk b = true) : PyData.strOk (a ++ b) = true := by
  unfold PyData.strOk at h k ⊢
  show (a.cps ++ b.cps).all _ = true
  rw [Array.all_append, h, k]; rfl
theorem SO.add {K : PySem.W.Frag} {n m : Nat} {a b : D} {φ : D → Prop} (h : SO n a) (k : SO m b) (f : ∀ r, SO (n + m) r → φ r) (hs : n + m ≤ 1000000 := by decide) : (O2.add (K := K)).w a b φ := by
  obtain ⟨z, rfl, h1, h2⟩ := h
  obtain ⟨y, rfl, k1, k2⟩ := k
  exact ⟨by omega, f _ ⟨_, rfl, strOk_add h1 k1, by rw [str_len_add]; omega⟩⟩
theorem SO.lit {z : Str} {n : Nat} (h : PyData.strOk z = true := by decide +kernel) (k : z.length ≤ n := by decide) : SO n (.str z) := ⟨z, rfl, h, k⟩
theorem SO.sgn {z : Str} {c : Nat} (h : PyData.strOk z = true) (hc : c ∈ z.cps.toList) : SO 1 (.str ⟨#[c]⟩) := by
  refine ⟨_, rfl, ?_, Nat.le_refl 1⟩
  unfold PyData.strOk at h ⊢
  rw [← Array.all_toList, List.all_eq_true] at h
  simp only [List.all_toArray, List.all_cons, List.all_nil, Bool.and_true]
  exact h c hc
theorem SO.cut {n : Nat} {a : D} {lo hi : Option Int} (h : SO n a) : SO n (a.cut lo hi) := by
  obtain ⟨z, rfl, h1, h2⟩ := h
  have e : (cutS z lo hi).cps.toList = (z.cps.toList.drop (HT.sIx z.length 0 lo)).take (HT.sIx z.length z.length hi - HT.sIx z.length 0 lo) := rfl
  refine ⟨cutS z lo hi, rfl, strOk_sub (fun c hc => ?_) h1, ?_⟩
  · rw [e] at hc
    exact List.mem_of_mem_drop (List.mem_of_mem_take hc)
  · have e2 : (cutS z lo hi).length = (cutS z lo hi).cps.toList.length := rfl
    rw [e2, e, List.length_take, List.length_drop, len_cps]
    omega
theorem gdI {k n : Nat} {i : Int} (h : -(2 ^ 120) < i ∧ i < 2 ^ 120) (b : 1930 ≤ n := by decide) : GD k n (.int i) := by
  refine .int ?_ b
  by_cases z : i.natAbs = 0
  · rw [z]; decide
  · have h2 : i.natAbs < 2 ^ 120 := by omega
    have := (Nat.log2_lt z).mpr h2
    omega
theorem gdT {k n k' n' : Nat} {ds : List D} (h : GDs k n ds) (a : k + 1 ≤ k' := by decide) (b : n + 3 ≤ n' := by decide) : GD k' n' (.tup ds) := h.tup.mono a b
theorem gdL {k n k' n' : Nat} {ds : List D} (h : GDs k n ds) (a : k + 1 ≤ k' := by decide) (b : n + 3 ≤ n' := by decide) : GD k' n' (.lst ds) := h.lst.mono a b
theorem gdS {k n : Nat} {z : Str} (h : PyData.strOk z = true := by decide +kernel) (b : 10 * z.length + 2 ≤ n := by decide) : GD k n (.str z) := .str h b
end DL
set_option maxRecDepth 100000
set_option maxHeartbeats 4000000
/-! DLe: errors: raised, caught, read. -/
namespace DL
open PySem L2 PyProof.Rows
/-- a def of the text that may raise -/
structure CalX (P : Program) (w : World) (K : PySem.W.Frag) (mg : Str → Option Value) (base : Heap) (x : Str) (k : Nat) (ps : List Str) (dvs : List V) (sp : Sp) : Prop where
  ex : ∃ f fd ds, FnG P w K mg base (L2.CX P w) k f fd ps sp ∧ mg x = some (.ref f) ∧ PySem.W.keepIn K (.ref f) = true ∧ Binds K fd ps ds ∧ Vals dvs ds
section
variable {X : Cx} {CX : CXT} {k j : Nat} {f : Addr} {fd : FuncData} {ps : List Str} {sp : Sp} {x : Str} {p pos : Pos} {e : Expr} {es : List Expr} {t : TA} {ds : List Value} {dvs : List V} {W : WX} {E : L2.St → XK}
theorem rungS {pins : List (Addr × Obj)} {σ : L2.St} {H : Hp} {s : Shared} {Q : VK} {us : List Value} {vs : List V} (F : FnG X.prog X.w X.K X.mg X.base CX k f fd ps sp) (hr : Room k X.A) (ng : NoG X.A) (hb : Binds X.K fd ps ds) (hd : Vals dvs ds) (hx : PassesAt CX X σ (E σ))
    (I : L2.Inv X pins σ H s) (r : Vals vs us) (h : sp (vs ++ dvs) H Q (E σ)) : wpAny (model X.prog X.w) X.A (call (.ref f) us) (EP X pins σ Q) X.xe s := by
  have both := r.append hd
  have same : (us ++ ds).length = ps.length := both.length.symm.trans (F.len _ _ _ _ h)
  refine wpAny_call (codeAny_mono (F.run X.A hr ng X.stack s H ⟨us, []⟩ _ _ Q (E σ) I.env0 (hb s us I.kIn same) both h) fun res s' got => ?_)
  cases res with
  | error er => exact hx pins H s er s' I got
  | ok flow => cases flow with
    | ret u => exact I.after got
    | next => exact got.elim
    | brk => exact got.elim
    | cont => exact got.elim
theorem peg_calX (C : CalX X.prog X.w X.K X.mg X.base x j ps dvs sp) (hr : Room k X.A) (hj : j ≤ k) (ng : NoG X.A) (hg : Gl X x) (tk : Takes X W) (ha : PA X (e :: es) t)
    (h1 : (x == ("__debug__" : Str)) = false := by decide) (h2 : starEach (e :: es) X.env = (false, eval e X.env) :: starEach es X.env := by rfl) (h3 : (backTo pos (starEach es X.env)).any (·.1) = false := by rfl) : PE X (.Call (.Name x p) (e :: es) [] pos) (tCallSD sp dvs (L2.WE W) t) := by
  obtain ⟨f, fd, ds, F, hm, hk, hb, hd⟩ := C.ex
  refine ⟨fun pins s σ H Q I h => ?_⟩
  refine wpAny_Call_Name_kw (ld_glob I hg hm ?_ h1)
  refine PySem.W.callWith_K (h₀ := X.base) I.ok.mod.kin hk (thn (ha.run pos pins s σ H _ I h) fun us s1 ⟨vs, H1, I1, r, q⟩ => ⟨I1.kIn, ?_⟩) h2 h3
  exact rungS F (hr.mono hj) ng hb hd (passAt tk σ) I1 r q
end
/-! ### an own class of errors -/
/-- what the written part says of an own class with an __init__ that sets the fields ns -/
structure OwnC (K : PySem.W.Frag) (mg : Str → Option Value) (x : Str) (C fI : Addr) (ns : List Str) : Prop where
  ox : OexC K C
  xf : XfC K C
  iC : PySem.W.findIn K (.ref C) "__init__" = some (some (.ref fI))
  tI : PySem.W.typeIn K (.ref fI) = some (.type "function")
  no : ∀ f ∈ ns, PySem.W.findIn K (.ref C) f = some none
  m : mg x = some (.ref C)
  self : PySem.W.exmOne K (.ref C) (.ref C) = some true
/-- __init__ sets the fields -/
def SpI (K : PySem.W.Frag) (ns : List Str) : Sp := fun vs H Q _ => ∃ (a C : Addr) (ws : List V), vs = .ref a :: ws ∧ ws.length = ns.length ∧ OexC K C ∧ (∀ f ∈ ns, PySem.W.findIn K (.ref C) f = some none) ∧ H a = some (exo a C none) ∧
  ∀ dx H2, H dx = none → dx ≠ a → H2 a = some (exo a C (some dx)) → H2 dx = some (exd dx (ns.zip ws).reverse) → (∀ b, b ≠ a → b ≠ dx → H2 b = H b) → Q .non H2
theorem init1_ok {K : PySem.W.Frag} {f : Str} {vs : List V} {H : Hp} {Q : VK} {E : XK} (h : SpI K [f] vs H Q E) : tOst K f (tVar 0) (tVar 1) { nx := fun _ H' => Q .non H', rt := Q } (L2.start ["self", "x"] vs) H := by
  obtain ⟨a, C, ws, rfl, hl, T, no, ha, q⟩ := h
  match ws, hl with
  | [y], _ =>
    refine ⟨_, rfl, _, rfl, a, C, rfl, T, no f (by simp), .inl ⟨ha, fun dx h1 h2 => ?_⟩⟩
    refine q dx _ h1 h2 upd_same ?_ fun b n1 n2 => ?_
    · rw [upd_ne h2]; exact upd_same
    · rw [upd_ne n1, upd_ne n2]
theorem zip_rev {α β : Type} : ∀ {l : List α} {m : List β}, l.length = m.length → (l.zip m).reverse = l.reverse.zip m.reverse
  | [], [], _ => rfl
  | a :: l, b :: m, h => by
    have h' : l.length = m.length := by simpa using h
    rw [List.zip_cons_cons, List.reverse_cons, List.reverse_cons, List.reverse_cons, zip_rev h', List.zip_append (by rw [List.length_reverse, List.length_reverse, h'])]
    rfl
section
variable {K : PySem.W.Frag} {E : XK}
/-- raise C(..) -/
def WS.raiseO (C : Addr) (ns : List Str) (a : WA K E) (T : OexC K C) (no : ∀ f ∈ ns, PySem.W.findIn K (.ref C) f = some none) : WS K E := ⟨fun _ σ H => tMkO C (SpI K ns) [] a.t σ H fun cls d H' => E cls d H', a.m, fun χ Γ W => a.w χ Γ fun ds => ds.length = ns.length ∧ ds.length ≤ 1000 ∧ χ C (ns.zip ds).reverse, fun {p χ Γ W} h Hb Hd0 H0 σ Hd H n o l x En k1 k2 k3 k4 => by
  refine a.ok h σ Hd H n o.sr o.g.s o.pe l (x.grow o.g) _ fun vs ds Hd1 H1 g1 pe1 ⟨f1, f2, f3⟩ r => ⟨by rw [r.length]; exact f2, fun a' ha => ?_⟩
  refine ⟨a', C, vs, by rw [List.append_nil], by rw [r.length]; exact f1, T, no, upd_same, fun dx H2 h1 h2 e1 e2 e3 => ⟨rfl, dx, _, e1, e2, ?_, ?_⟩⟩
  · rw [upd_ne h2] at h1; exact h1
  · rw [upd_ne h2] at h1
    have eH : upd (del H2 a') dx (.xd (ns.zip vs).reverse) = upd H1 dx (.xd (ns.zip vs).reverse) := by
      funext b
      by_cases q : b = dx
      · subst q; rw [upd_same, upd_same]
      · rw [upd_ne q, upd_ne q]
        by_cases q2 : b = a'
        · subst q2; rw [del_same, ha]
        · rw [del_ne q2, e3 b q2 q, upd_ne q2]
    rw [eH]
    have g2 : Grow (p.a) Hd1 H1 (upd Hd1 dx (.xd (ns.zip vs).reverse)) (upd H1 dx (.xd (ns.zip vs).reverse)) := Grow.new g1.s h1
    refine x C dx _ _ _ ((o.g.trans g1).trans g2) f3 ?_
    have hz : (ns.zip vs).reverse = (((ns.zip ds).reverse).map (·.1)).zip vs.reverse := by
      have l1 : ns.length = vs.length := by rw [r.length, f1]
      rw [List.map_reverse, List.map_fst_zip (by omega)]
      rw [zip_rev (by omega)]
    refine ⟨vs.reverse, ?_, ?_⟩
    · rw [← hz]; exact upd_same
    · rw [List.map_reverse, List.map_snd_zip (by omega)]
      exact (r.mono g2.d).reverse⟩
/-- error.f in the suite of a clause: the error at a, of the class cls, its fields' dict at d -/
def lookD : List Str → List D → Str → Option D
  | n :: ns, d :: ds, f => if f = n then some d else lookD ns ds f
  | _, _, _ => none
theorem look_zip {H : Hp} {f : Str} : ∀ {ns : List Str} {xs : List V} {ds : List D}, Reps K H xs ds → ∀ {d : D}, lookD ns ds f = some d → ∃ v, (ns.zip xs).lookup f = some v ∧ Rep K H v d
  | [], _, _, _, d, h => by unfold lookD at h; cases h
  | n :: ns, _, _, .nil, d, h => by unfold lookD at h; cases h
  | n :: ns, x :: xs, e :: ds, .cons h1 r, d, h => by
    rw [List.zip_cons_cons]
    by_cases z : f = n
    · rw [show lookD (n :: ns) (e :: ds) f = some e from if_pos z] at h
      cases h
      subst z
      exact ⟨x, by simp [List.lookup], h1⟩
    · rw [show lookD (n :: ns) (e :: ds) f = lookD ns ds f from if_neg z] at h
      obtain ⟨v, q1, q2⟩ := look_zip r h
      have z' : (f == n) = false := by simpa using z
      exact ⟨v, by simp [List.lookup, z']; exact q1, q2⟩
def WE.xf (a : Addr) (cls : Value) (d : Option Addr) (C : Addr) (f : Str) (e : WE K E) : WE K E := ⟨tXf a cls d C f e.t, e.m, fun χ Γ φ => e.w χ Γ fun x => ∃ dx ns ds y, x = .exc a dx ns ds ∧ cls = .ref C ∧ d = some dx ∧ lookD ns ds f = some y ∧ φ y, fun {p χ Γ φ} h σ Hd H n s sa pe l x Q q =>
  e.ok h σ Hd H n s sa pe l x _ fun v d' Hd1 H1 g1 pe1 ⟨dx, ns, ds, y, e1, e2, e3, e4, f1⟩ r => by
    subst e1
    cases r with
    | exc h1 h2 h3 =>
      obtain ⟨v, q1, q2⟩ := look_zip h3 e4
      exact ⟨rfl, e2, _, _, v, e3, g1.s _ _ h1, q1, q v y Hd1 H1 g1 pe1 f1 q2⟩⟩
theorem Ok.unset {c : Ct} {Hb Hd0 H0 Hd H : Hp} {σ : L2.St} {Γ : List Sk} {n i : Nat} (o : Ok c Hb Hd0 H0 σ Γ Hd H n) : Ok c Hb Hd0 H0 (σ.set i none) (Γ.set i .un) Hd H n :=
  o.slots (o.sr.set (i := i) (o := none) (k := .un) True.intro rfl) fun j k h1 h2 => by
    by_cases e : i = j
    · subst e
      rw [List.getElem?_set_self (by
        have := (List.getElem?_eq_some_iff.mp h1).1
        simpa using this)] at h1
      cases h1; cases h2
    · rw [List.getElem?_set_ne e] at h1
      exact ⟨h1, by rw [List.getElem?_set_ne e]⟩
/-- try: x = f(..) except C as n: suite -/
def WS.tryAsg (j : Nat) (pre : List D → Prop) (post : List D → D → Prop) (χ' : List D → Xq) (a : WA K E) (i : Nat) (C : Addr) (suite : Addr → Value → Option Addr → WS K E) (m : Nat) (hm : ∀ a c d, (suite a c d).m ≤ m) (self : PySem.W.exmOne K (.ref C) (.ref C) = some true) : WS K E :=
  ⟨fun En σ H => tAsg (tCallSD (SpX K pre post χ') [] (L2.WE (wAs K (.ref C) i (fun a c d => (suite a c d).t) (fun _ _ _ _ => False) En)) a.t) (gName j) En σ H, a.m + m,
   fun χ Γ W => a.w χ Γ fun ds => pre ds ∧ (∀ d, post ds d → W.N (Γ.set j (.dat d))) ∧ ∀ C' fs, χ' ds C' fs → C' = C ∧ ∀ x dx, (suite x (.ref C) (some dx)).w χ (Γ.set i (.dat (.exc x dx (fs.map (·.1)) (fs.map (·.2))))) { N := fun G => W.N (G.set i .un), R := W.R, B := fun G => W.B (G.set i .un), C := fun G => W.C (G.set i .un) },
   fun {p χ Γ W} h Hb Hd0 H0 σ Hd H n o l x En k1 k2 k3 k4 => by
    refine a.ok h σ Hd H n o.sr o.g.s o.pe (by show n + a.m ≤ LIM; omega) (x.grow o.g) _ fun vs ds Hd1 H1 g1 pe1 ⟨f1, f2, f3⟩ r => ?_
    refine ⟨Hd1, ds, g1.s, by rw [List.append_nil]; exact r, f1, fun v d Hd2 H2 g2 q2 r2 => ?_, fun C' dx fs Hd2 H2 g2 hχ xa => ?_⟩
    · exact k1 _ _ _ _ (f2 d q2) (((o.grow (g1.trans g2.up) (pe1.grow g2)).set r2).more (by omega))
    · obtain ⟨rfl, f4⟩ := f3 C' fs hχ
      refine ⟨true, self, fun _ a' ha => ?_, fun z => nomatch z⟩
      obtain ⟨xs, e1, e2⟩ := xa
      have hl : (fs.map (·.1)).length = xs.length := by rw [e2.length, List.length_map, List.length_map]
      have o2 := (o.grow (g1.trans g2.up) (pe1.grow g2)).set (i := i) (v := .ref a') (d := .exc a' dx (fs.map (·.1)) (fs.map (·.2))) (.exc e1 hl e2)
      have hm' := hm a' (.ref C') (some dx)
      refine (suite a' (.ref C') (some dx)).ok (f4 a' dx) Hb Hd0 H0 _ _ _ _ o2 (by show n + a.m + (suite a' (.ref C') (some dx)).m ≤ LIM; omega) x _ ?_ ?_ ?_ ?_
      · intro Γ' σ' Hd' H' f o3; exact k1 _ _ _ _ f (o3.unset.more (by omega))
      · intro Γ' σ' Hd' H' f o3; exact k2 _ _ _ _ f (o3.unset.more (by omega))
      · intro Γ' σ' Hd' H' f o3; exact k3 _ _ _ _ f (o3.unset.more (by omega))
      · intro v d Hd' H' f g pe r; exact k4 _ _ _ _ f g (pe.more (by omega)) r⟩
end
/-! ### defs that raise, by their terms -/
section
variable {P : Program} {w : World} {K : PySem.W.Frag} {mg : Str → Option Value} {base : Heap} {x : Str} {k : Nat} {ps N : List Str} {dvs : List V} {st : Stmt} {pre : List D → Prop} {post : List D → D → Prop} {χ : List D → Xq}
theorem cal_WX (T : ∀ E : XK, WS K E) (Df : Def K mg x st ps dvs) (S : FnScope N ps (defScope st)) (hl : ∀ ds, pre ds → ds.length = ps.length)
    (hb : ∀ (f : Addr) (cdv : Value) (A : Around) (outer : List Env) (s : Shared) (H : Hp) (E : XK), Room k (A.deeper (envOfC x (defScope st) s.heap.objs.size f cdv)) → NoG (A.deeper (envOfC x (defScope st) s.heap.objs.size f cdv)) →
      ∃ t, PSs (cxOf (L2.CX P w) P w K mg base N x (defScope st) f cdv A outer s H E) (defBody st) t ∧ t = (T E).t) (hm : ∀ E, (T E).m = 0) (hw : ∀ E ds, pre ds → (T E).w (χ ds) (G0 N ds) (retW (post ds))) : CalX P w K mg base x (k + 1) ps dvs (SpX K pre post χ) := by
  obtain ⟨f, fd, ds, F, hm', b, v⟩ := Df.ex
  refine ⟨f, fd, ds, fng_of F S (fun vs H Q E h => ?_) (fun cdv A outer s H vs Q E hr ng h => ?_), hm', F.kp, b, v⟩
  · obtain ⟨Hd, ds, sa, r, hp, _⟩ := h
    rw [r.length, hl ds hp]
  · obtain ⟨Hd, ds, sa, r, hp, q, qx⟩ := h
    refine ⟨(T E).t, (hb f cdv A outer s H E hr ng).elim fun t h => h.2 ▸ h.1, (T E).ok (p := none) (χ := χ ds) (hw E ds hp) Hd Hd H _ Hd H 0 ⟨Same.refl _, sa, .refl sa, sr_start r, True.intro, fun i k' l h1 h2 _ => by rw [G0_own h1] at h2; cases h2⟩ (by rw [hm E]; decide) (fun C dx fs Hd' H' g hx xa => qx C dx fs Hd' H' g hx xa) _ ?_ ?_ ?_ ?_⟩
    · intro Γ' σ' Hd' H' n o; exact q .non .non Hd' H' o.g n .non
    · intro _ _ _ _ z; exact z.elim
    · intro _ _ _ _ z; exact z.elim
    · intro v d Hd' H' n g _ r'; exact q v d Hd' H' g n r'
end
end DL
namespace DL
open PySem L2 PyProof.Rows
/-- an own class whose __init__ is proved -/
structure OwnI (P : Program) (w : World) (K : PySem.W.Frag) (mg : Str → Option Value) (base : Heap) (x : Str) (C fI : Addr) (ns : List Str) (k : Nat) : Prop where
  own : OwnC K mg x C fI ns
  ex : ∃ fd ps, FnOk P w K mg base CX0 k fI fd ps (SpI K ns) ∧ Binds K fd ps []
/-- class C: def __init__(self, f): self.f = f -/
theorem init1_fn {P : Program} {w : World} {K : PySem.W.Frag} {mg : Str → Option Value} {base : Heap} {qual f : Str} {st : Stmt} {fI : Addr} {fd : FuncData} {N ps : List Str} (F : Fun K "__init__" qual st fI fd) (S : FnScope N ps (defScope st)) (hN : N.length = 2) (hp : ps.length = 2)
    (hb : ∀ (cdv : Value) (A : Around) (outer : List Env) (s : Shared) (H : Hp) (E : XK), PSs (cxOf CX0 P w K mg base N qual (defScope st) fI cdv A outer s H E).nox (defBody st) (tOst K f (tVar 0) (tVar 1))) : FnOk P w K mg base CX0 1 fI fd ps (SpI K [f]) :=
  F.ok (k := 0) S (fun vs H Q E h => by obtain ⟨a, C, ws, rfl, hl, _⟩ := h; rw [List.length_cons, hl, hp]; rfl) fun cdv A outer s H vs Q E hr h => ⟨_, hb cdv A outer s H E, by
    have e := init1_ok h (E := E)
    obtain ⟨a, C, ws, rfl, hl, _⟩ := h
    have e2 : L2.start N (.ref a :: ws) = L2.start ["self", "x"] (.ref a :: ws) := by
      unfold L2.start
      rw [hN]; rfl
    rw [e2]; exact e⟩
section
variable {X : Cx} {E : XK} {x : Str} {C fI : Addr} {ns : List Str} {j k : Nat} {e : Expr} {es : List Expr} {ta : TA} {p pos pos2 : Pos}
theorem ps_raiseO (O : OwnI X.prog X.w X.K X.mg X.base x C fI ns j) (hr : Room k X.A) (hj : j + 1 ≤ k) (hc : X.calm = true) (tk : Takes X (fun cls d _ H => E cls d H)) (hg : Gl X x) (ha : PA X (e :: es) ta)
    (hdb : (x == ("__debug__" : Str)) = false := by decide) (he : starEach (e :: es) X.env = (false, eval e X.env) :: starEach es X.env := by rfl) (hpl : (backTo pos (starEach es X.env)).any (·.1) = false := by rfl) :
    PS X (.Raise (some (.Call (.Name x p) (e :: es) [] pos)) none pos2) (fun _ σ H => tMkO C (SpI X.K ns) [] ta σ H fun cls d H' => E cls d H') := by
  obtain ⟨fd, ps, F, hb⟩ := O.ex
  exact ps_raise hc tk (pmk_oex O.own.ox O.own.iC O.own.tI F (hr.mono hj) hb .nil pass0 hg O.own.m ha hdb he hpl)
end
section
variable {K : PySem.W.Frag} {E : XK} {χ : Xq} {Γ : List Sk} {φ : D → Prop} {W : Wh}
theorem w_raiseO {C : Addr} {ns : List Str} {a : WA K E} {T : OexC K C} {no : ∀ f ∈ ns, PySem.W.findIn K (.ref C) f = some none} : (WS.raiseO C ns a T no).w χ Γ W = a.w χ Γ fun ds => ds.length = ns.length ∧ ds.length ≤ 1000 ∧ χ C (ns.zip ds).reverse := rfl
theorem w_xf {a : Addr} {cls : Value} {d : Option Addr} {C : Addr} {f : Str} {e : WE K E} : (WE.xf a cls d C f e).w χ Γ φ = e.w χ Γ fun x => ∃ dx ns ds y, x = .exc a dx ns ds ∧ cls = .ref C ∧ d = some dx ∧ lookD ns ds f = some y ∧ φ y := rfl
theorem w_tryAsg {j : Nat} {pre : List D → Prop} {post : List D → D → Prop} {χ' : List D → Xq} {a : WA K E} {i : Nat} {C : Addr} {suite : Addr → Value → Option Addr → WS K E} {m : Nat} {hm : ∀ a c d, (suite a c d).m ≤ m} {self : PySem.W.exmOne K (.ref C) (.ref C) = some true} : (WS.tryAsg j pre post χ' a i C suite m hm self).w χ Γ W = a.w χ Γ fun ds => pre ds ∧ (∀ d, post ds d → W.N (Γ.set j (.dat d))) ∧ ∀ C' fs, χ' ds C' fs → C' = C ∧ ∀ x dx, (suite x (.ref C) (some dx)).w χ (Γ.set i (.dat (.exc x dx (fs.map (·.1)) (fs.map (·.2))))) { N := fun G => W.N (G.set i .un), R := W.R, B := fun G => W.B (G.set i .un), C := fun G => W.C (G.set i .un) } := rfl
end
end DL
set_option maxRecDepth 100000
set_option maxHeartbeats 4000000
/-! DLr: the text that repr gives is one that == may be asked of. -/
namespace DL
open PySem L2 PyProof.Rows
theorem char_lt (c : Char) : c.toNat < 0x110000 := by
  have h := c.valid
  rcases h with h | h
  · exact Nat.lt_trans h (by decide)
  · exact h.2
theorem strOk_list {l : List Nat} (h : ∀ k ∈ l, k < 0x110000) : PyData.strOk ⟨l.toArray⟩ = true := by
  unfold PyData.strOk
  simp only [List.all_toArray, List.all_eq_true]
  exact fun k hk => decide_eq_true (h k hk)
theorem strOk_mem {x : Str} (h : PyData.strOk x = true) : ∀ k ∈ x.cps.toList, k < 0x110000 := by
  unfold PyData.strOk at h
  rw [← Array.all_toList, List.all_eq_true] at h
  exact fun k hk => of_decide_eq_true (h k hk)
theorem strOk_of {x : Str} (h : ∀ k ∈ x.cps.toList, k < 0x110000) : PyData.strOk x = true := by
  unfold PyData.strOk
  rw [← Array.all_toList, List.all_eq_true]
  exact fun k hk => decide_eq_true (h k hk)
theorem strOk_ofString (s : String) : PyData.strOk (Str.ofString s) = true := by
  refine strOk_of fun k hk => ?_
  rw [Str.ofString_eq_toList] at hk
  have hk' : k ∈ s.toList.map Char.toNat := hk
  obtain ⟨c, _, rfl⟩ := List.mem_map.mp hk'
  exact char_lt c
theorem reprChar_ok {q c : Nat} (hc : c < 0x110000) : ∀ k ∈ Builtin.Str.reprChar q c, k < 0x110000 := by
  have hx : ∀ w k, k ∈ List.replicate (w - ((Nat.toDigits 16 c).map Char.toNat).length) 48 ++ (Nat.toDigits 16 c).map Char.toNat → k < 0x110000 := fun w k hk => by
    rcases List.mem_append.mp hk with h | h
    · rw [(List.mem_replicate.mp h).2]; decide
    · obtain ⟨d, _, rfl⟩ := List.mem_map.mp h
      exact char_lt d
  intro k hk
  unfold Builtin.Str.reprChar at hk
  have two : ∀ a b, a < 0x110000 → b < 0x110000 → k ∈ [a, b] → k < 0x110000 := fun a b ha hb h => by
    simp only [List.mem_cons, List.not_mem_nil, or_false] at h
    rcases h with rfl | rfl <;> assumption
  dsimp only at hk
  split at hk
  · exact two _ _ (by decide) hc hk
  split at hk
  · exact two _ _ (by decide) (by decide) hk
  split at hk
  · exact two _ _ (by decide) (by decide) hk
  split at hk
  · exact two _ _ (by decide) (by decide) hk
  split at hk
  · rw [List.mem_singleton.mp hk]; exact hc
  split at hk
  · rcases List.mem_append.mp hk with h | h
    · exact two _ _ (by decide) (by decide) h
    · exact hx _ k h
  split at hk
  · rcases List.mem_append.mp hk with h | h
    · exact two _ _ (by decide) (by decide) h
    · exact hx _ k h
  · rcases List.mem_append.mp hk with h | h
    · exact two _ _ (by decide) (by decide) h
    · exact hx _ k h
theorem foldl_ok (q : Nat) : ∀ (l : List Nat) (acc : Array Nat), (∀ c ∈ l, c < 0x110000) → (∀ c ∈ acc.toList, c < 0x110000) → ∀ c ∈ (l.foldl (fun out c => out ++ (Builtin.Str.reprChar q c).toArray) acc).toList, c < 0x110000
  | [], acc, _, h => h
  | x :: l, acc, hl, h => by
    refine foldl_ok q l _ (fun c hc => hl c (List.mem_cons_of_mem _ hc)) fun c hc => ?_
    rw [Array.toList_append] at hc
    rcases List.mem_append.mp hc with z | z
    · exact h c z
    · exact reprChar_ok (hl x List.mem_cons_self) c z
theorem reprText_ok {x : Str} (h : PyData.strOk x = true) : PyData.strOk (reprText x) = true := by
  have hq : reprQuote x < 0x110000 := by unfold reprQuote; split <;> decide
  refine strOk_of fun k hk => ?_
  unfold reprText at hk
  rw [Array.toList_push, ← Array.foldl_toList] at hk
  rcases List.mem_append.mp hk with z | z
  · exact foldl_ok _ _ _ (strOk_mem h) (fun c hc => by simp at hc; rw [hc]; exact hq) k z
  · rw [List.mem_singleton.mp z]; exact hq
theorem join_ok {s : Str} (hs : PyData.strOk s = true) : ∀ {l : List Str}, (∀ t ∈ l, PyData.strOk t = true) → PyData.strOk (Str.join s l) = true
  | [], _ => by show PyData.strOk Str.empty = true; decide +kernel
  | [x], h => h x (by simp)
  | x :: y :: r, h => strOk_add (strOk_add (h x (by simp)) hs) (join_ok hs fun t ht => h t (List.mem_cons_of_mem _ ht))
mutual
theorem shown_ok : ∀ d : D, d.py.canLay0 = true → PyData.strOk d.py.shown = true
  | .non, _ => strOk_ofString _
  | .bl b, _ => by
    show PyData.strOk (PyData.bool b).shown = true
    rw [PyData.shown_bool]
    cases b <;> exact strOk_ofString _
  | .int i, _ => by
    show PyData.strOk (PyData.int i).shown = true
    rw [PyData.shown_int]; exact strOk_ofString _
  | .str x, h => by
    show PyData.strOk (PyData.str x).shown = true
    rw [PyData.shown_str]; exact reprText_ok h
  | .lst ds, h => by
    show PyData.strOk (PyData.list (D.pys ds)).shown = true
    rw [PyData.shown_list]
    exact strOk_add (strOk_add (strOk_ofString _) (join_ok (strOk_ofString _) (shown_oks ds h))) (strOk_ofString _)
  | .tup ds, h => by
    show PyData.strOk (PyData.tuple (D.pys ds)).shown = true
    rw [PyData.shown_tuple]
    exact strOk_add (strOk_add (strOk_ofString _) (join_ok (strOk_ofString _) (shown_oks ds h))) (strOk_ofString _)
  | .dct _ _, _ => strOk_ofString _
  | .obj _ _ _, _ => strOk_ofString _
  | .exc _ _ _ _, _ => strOk_ofString _
  | .ptr _, _ => strOk_ofString _
  | .err _ _ _, _ => strOk_ofString _
theorem shown_oks : ∀ ds : List D, PyData.canLayAll0 (D.pys ds) = true → ∀ t ∈ PyData.shownAll (D.pys ds), PyData.strOk t = true
  | [], _, t, ht => by
    rw [show D.pys [] = [] from rfl, PyData.shownAll_nil] at ht
    cases ht
  | d :: ds, h, t, ht => by
    have h' := Bool.and_eq_true_iff.mp (show (PyData.canLay0 d.py && PyData.canLayAll0 (D.pys ds)) = true from h)
    rw [show D.pys (d :: ds) = d.py :: D.pys ds from rfl, PyData.shownAll_cons] at ht
    rcases List.mem_cons.mp ht with rfl | z
    · exact shown_ok d h'.1
    · exact shown_oks ds h'.2 t z
end
section
variable {K : PySem.W.Frag} {E : XK} {χ : Xq} {Γ : List Sk} {φ : D → Prop}
/-- a written dict, its keys told -/
structure WDK (K : PySem.W.Frag) (E : XK) (ks : List Key) where
  d : WD K E
  hk : d.ks = ks
def WDK.nil : WDK K E [] := ⟨WD.nil, rfl⟩
def WDK.cons (k : Str) (a : WE K E) {ks : List Key} (r : WDK K E ks) : WDK K E (.inr k :: ks) := ⟨WD.cons k a r.d, by show .inr k :: r.d.ks = _; rw [r.hk]⟩
def WE.dispK {ks : List Key} (a : WDK K E ks) (hn : ks.Nodup) (hl : ks.length ≤ 15) : WE K E := ⟨tDisp a.d.t, a.d.m, fun χ Γ φ => a.d.w χ Γ fun ds => φ (.dct ks ds), fun {p χ Γ φ} h => by
  obtain ⟨d, hk⟩ := a
  subst hk
  exact (WE.disp d hn hl).ok h⟩
theorem w_dispK {ks : List Key} {a : WDK K E ks} {hn : ks.Nodup} {hl : ks.length ≤ 15} : (WE.dispK a hn hl).w χ Γ φ = a.d.w χ Γ fun ds => φ (.dct ks ds) := rfl
theorem w_knil {ξ : List D → Prop} : (WDK.nil (K := K) (E := E)).d.w χ Γ ξ = ξ [] := rfl
theorem w_kcons {k : Str} {a : WE K E} {ks : List Key} {r : WDK K E ks} {ξ : List D → Prop} : (WDK.cons k a r).d.w χ Γ ξ = a.w χ Γ fun d => r.d.w χ Γ fun ds => ξ (d :: ds) := rfl
end
/-! within the suite of a clause the surroundings bear the caught error -/
theorem un66_mark {k : Nat} {A : Around} {x : Option Value} (r : Room k A) : (A.mark x).units + 66 < cLine := by
  have := r.un
  show A.units + 66 < cLine
  omega
theorem un64_mark {k : Nat} {A : Around} {x : Option Value} (r : Room k A) : (A.mark x).units + 64 < cLine := r.units
theorem ng_mark {A : Around} {x : Option Value} (r : NoG A) : NoG (A.mark x) := r
section
variable {K : PySem.W.Frag} {E : XK} {χ : Xq} {Γ : List Sk} {W : Wh}
theorem tryAsg_intro {j : Nat} {pre : List D → Prop} {post : List D → D → Prop} {χ' : List D → Xq} {a : WA K E} {i : Nat} {C : Addr} {suite : Addr → Value → Option Addr → WS K E} {m : Nat} {hm : ∀ a c d, (suite a c d).m ≤ m} {self : PySem.W.exmOne K (.ref C) (.ref C) = some true}
    (h : a.w χ Γ fun ds => pre ds ∧ (∀ d, post ds d → W.N (Γ.set j (.dat d))) ∧ ∀ C' fs, χ' ds C' fs → C' = C ∧ ∀ x dx, (suite x (.ref C) (some dx)).w χ (Γ.set i (.dat (.exc x dx (fs.map (·.1)) (fs.map (·.2))))) { N := fun G => W.N (G.set i .un), R := W.R, B := fun G => W.B (G.set i .un), C := fun G => W.C (G.set i .un) }) :
    (WS.tryAsg j pre post χ' a i C suite m hm self).w χ Γ W := h
end
/-- a promise read at other words for the same slots and posts (the term is a letter here: it is not opened) -/
theorem w_at {K : PySem.W.Frag} {E : XK} (U : WS K E) {χ χ' : Xq} {Γ Γ' : List Sk} {φ φ' : D → Prop} (h : U.w χ Γ (retW φ)) (eχ : χ = χ') (eΓ : Γ = Γ') (eφ : φ = φ') : U.w χ' Γ' (retW φ') := eχ ▸ eΓ ▸ eφ ▸ h
end DL
set_option maxRecDepth 100000
set_option maxHeartbeats 4000000
/-! DLend: what the written part of a law's start tells, made into Def, OwnC and the names of the module. -/
namespace DL
open PySem L2 PyProof.Rows
section
variable {K : PySem.W.Frag} {h : Heap} {mg : Str → Option Value} {x : Str} {st : Stmt} {ps : List Str}
theorem def_mk {f : Addr} {oc : Value} {od an : Option Addr} {osl : Array (Option Value)} {kV doc pm cdv ct : Value} (X : K.In h) (G : h.Ns mainGlobals mg) (a : PySem.W.nsIn K mainGlobals x = some (some (.ref f)))
    (l : K.lookup f = some ⟨oc, od, .func (PySem.W.fnOf x x (defArgs st) (defBody st) (defScope st) .none kV doc pm an cdv ct), osl⟩) (c : PySem.W.codeIn K cdv x = true) (k : PySem.W.keepIn K (.ref f) = true)
    (b : ∀ (kV doc pm : Value) (an : Option Addr) (cdv ct : Value) (us : List Value), us.length = ps.length → bindArgs (PySem.W.fnOf x x (defArgs st) (defBody st) (defScope st) .none kV doc pm an cdv ct) ⟨us, []⟩ = pure (ps.zip us)) : Def K mg x st ps [] :=
  ⟨f, _, [], ⟨⟨oc, od, .none, kV, doc, pm, an, cdv, ct, osl, rfl, l, c⟩, k⟩, PySem.W.mg_of X G a, .all (b kV doc pm an cdv ct), .nil⟩
/-- a def with defaults dvs; a call writes n values -/
theorem def_mkD {f T : Addr} {o : Obj} {its : List Value} {m : Nat} {dvs : List V} (n j : Nat) {oc : Value} {od an : Option Addr} {osl : Array (Option Value)} {kV doc pm cdv ct : Value} (X : K.In h) (G : h.Ns mainGlobals mg) (a : PySem.W.nsIn K mainGlobals x = some (some (.ref f)))
    (l : K.lookup f = some ⟨oc, od, .func (PySem.W.fnOf x x (defArgs st) (defBody st) (defScope st) (.ref T) kV doc pm an cdv ct), osl⟩) (lT : K.lookup T = some o) (c : PySem.W.codeIn K cdv x = true) (k : PySem.W.keepIn K (.ref f) = true)
    (oT : o.data = .seq its.toArray m) (r : Vals dvs its) (hd : dvs ≠ []) (hn : n + (dvs.length - j) = ps.length)
    (b : ∀ (T : Addr) (kV doc pm : Value) (an : Option Addr) (cdv ct : Value) (us its : List Value), us.length = n → its.length = dvs.length →
      ∃ k, bindArgs (PySem.W.fnOf x x (defArgs st) (defBody st) (defScope st) (.ref T) kV doc pm an cdv ct) ⟨us, []⟩ = seqItems? (.ref T) >>= k ∧ k (some its.toArray) = pure (ps.zip (us ++ its.drop j))) : Def K mg x st ps (dvs.drop j) := by
  have F : FunD K x x (defArgs st) (defBody st) (defScope st) dvs [] f (PySem.W.fnOf x x (defArgs st) (defBody st) (defScope st) (.ref T) kV doc pm an cdv ct) :=
    ⟨⟨oc, od, .ref T, kV, doc, pm, an, cdv, ct, osl, rfl, l, c, .inr ⟨hd, T, o, its, m, rfl, lT, oT, r⟩, .inl rfl⟩, k⟩
  obtain ⟨ds, v, bb⟩ := F.binds1 (ps := ps) n j hd hn b
  exact ⟨f, _, ds, ⟨⟨oc, od, .ref T, kV, doc, pm, an, cdv, ct, osl, rfl, l, c⟩, k⟩, PySem.W.mg_of X G a, bb, v⟩
/-- a name of the module that holds a scalar -/
theorem glo_mk {u : Value} {v : V} (X : K.In h) (G : h.Ns mainGlobals mg) (a : PySem.W.nsIn K mainGlobals x = some (some u)) (r : RelV v u) : ∃ u, mg x = some u ∧ RelV v u := ⟨u, PySem.W.mg_of X G a, r⟩
/-- .. that holds a tuple of scalars -/
theorem tup_mk {A : Addr} {od : Option Addr} {its : Array Value} {n : Nat} {osl : Array (Option Value)} {xs : List V} (X : K.In h) (G : h.Ns mainGlobals mg) (a : PySem.W.nsIn K mainGlobals x = some (some (.ref A)))
    (l : K.lookup A = some ⟨.type "tuple", od, .seq its n, osl⟩) (z : its.size ≤ sizeLine) (r : Vals xs its.toList) : ∃ A, (∃ u, mg x = some u ∧ RelV (.ref A) u) ∧ ∀ H, SqT K H A xs :=
  ⟨A, ⟨_, PySem.W.mg_of X G a, rfl⟩, fun H => .inr ⟨_, its, n, l, rfl, rfl, z, r⟩⟩
theorem exm_self {S : Addr} (h1 : PySem.W.subIn K (.ref S) (.type "BaseException") = some true) (h2 : PySem.W.isClsIn K S = true) (h3 : PySem.W.typeIn K (.ref S) = some (.type "type")) (h4 : PySem.W.subIn K (.ref S) (.ref S) = some true) :
    PySem.W.exmOne K (.ref S) (.ref S) = some true := by
  have e1 : (PySem.W.subIn K (.ref S) (.type "BaseException") == some true) = true := by rw [h1] <;> rfl
  have e2 : ((PySem.W.clsIn K S).isSome && PySem.W.typeIn K (.ref S) == some (.type "type")) = true := by
    have h2' : (PySem.W.clsIn K S).isSome = true := h2
    rw [h2', h3] <;> rfl
  show (if (PySem.W.subIn K (.ref S) (.type "BaseException") == some true) = true then (if ((PySem.W.clsIn K S).isSome && PySem.W.typeIn K (.ref S) == some (.type "type")) = true then PySem.W.subIn K (.ref S) (.ref S) else none) else none) = some true
  rw [if_pos e1, if_pos e2]
  exact h4
/-- an own class of errors -/
theorem own_mk {qual : Str} {C fI : Addr} {ns : List Str} {nm q : Str} {N : Addr} {bs bm : List Value} {sn : List Str} {sub : List Value} {ab : Bool} {col : Option Bool} {dd : Option Addr} {m0 m1 m2 m3 m5 : Option Value}
    {oc : Value} {od an : Option Addr} {osl : Array (Option Value)} {kV doc pm cdv ct : Value} (X : K.In h) (G : h.Ns mainGlobals mg) (aC : PySem.W.nsIn K mainGlobals x = some (some (.ref C)))
    (xL : K.lookup C = some (excClassObj nm q C N bs bm true sn sub ab col dd m0 m1 m2 m3 m5 "ValueError.__new__")) (ve : PySem.HandSPX.refsVE bm = true)
    (sa : PySem.W.findIn K (.ref C) "__setattr__" = some (some (.builtin "object.__setattr__"))) (ga : PySem.W.findIn K (.ref C) "__getattribute__" = some (some (.builtin "BaseException.__getattribute__"))) (gg : PySem.W.findIn K (.ref C) "__getattr__" = some none)
    (no : ∀ f ∈ ns, PySem.W.findIn K (.ref C) f = some none) (a1 : PySem.W.findIn K (.ref C) "__init__" = some (some (.ref fI))) (t1 : PySem.W.typeIn K (.ref fI) = some (.type "function"))
    (l : K.lookup fI = some ⟨oc, od, .func (PySem.W.fnOf "__init__" qual (defArgs st) (defBody st) (defScope st) .none kV doc pm an cdv ct), osl⟩) (c : PySem.W.codeIn K cdv qual = true) (k : PySem.W.keepIn K (.ref fI) = true)
    (kC : PySem.W.keepIn K (.ref C) = true) (eC : PySem.W.subIn K (.ref C) (.type "BaseException") = some true) (tC : PySem.W.typeIn K (.ref C) = some (.type "type")) (hC : PySem.W.hasDictIn K C = true) (iC : PySem.W.isClsIn K C = true) (sC : PySem.W.subIn K (.ref C) (.ref C) = some true)
    (b : ∀ (kV doc pm : Value) (an : Option Addr) (cdv ct : Value) (us : List Value), us.length = ps.length → bindArgs (PySem.W.fnOf "__init__" qual (defArgs st) (defBody st) (defScope st) .none kV doc pm an cdv ct) ⟨us, []⟩ = pure (ps.zip us)) :
    ∃ C fI, OwnC K mg x C fI ns ∧ ∃ fd, Fun K "__init__" qual st fI fd ∧ Binds K fd ps [] :=
  ⟨C, fI, ⟨⟨⟨nm, q, N, bs, bm, sn, sub, ab, col, dd, m0, m1, m2, m3, m5, xL, ve⟩, sa, eC, tC, kC⟩, ⟨ga, gg, eC, hC⟩, a1, t1, no, PySem.W.mg_of X G aC, exm_self eC iC tC sC⟩, _, fun_mk l c k, .all (b kV doc pm an cdv ct)⟩
end
section
variable {P : Program} {w : World} {K : PySem.W.Frag} {mg : Str → Option Value} {base : Heap} {x : Str} {k : Nat} {ps N : List Str} {sp : Sp} {st : Stmt} {f : Addr} {fd : FuncData}
theorem fng_raw (F : FunV K x x st f fd) (S : FnScope N ps (defScope st)) (len : ∀ vs H Q E, sp vs H Q E → vs.length = ps.length)
    (hb : ∀ (f : Addr) (cdv : Value) (A : Around) (outer : List Env) (s : Shared) (H : Hp) (vs : List V) (Q : VK) (E : XK), Room k (A.deeper (envOfC x (defScope st) s.heap.objs.size f cdv)) → NoG (A.deeper (envOfC x (defScope st) s.heap.objs.size f cdv)) → sp vs H Q E →
      ∃ t, PSs (cxOf CX0 P w K mg base N x (defScope st) f cdv A outer s H E).nox (defBody st) t ∧ t { nx := fun _ H' => Q .non H', rt := Q } (L2.start N vs) H) : FnG P w K mg base CX0 (k + 1) f fd ps sp :=
  fng_of F S len fun cdv A outer s H vs Q E r ng h => by
    obtain ⟨t, h1, h2⟩ := hb f cdv A outer s H vs Q E r ng h
    exact ⟨t, h1.nox, h2⟩
/-- the law's def -/
theorem law_mk {h : Heap} {fa : Addr} {oc : Value} {od an : Option Addr} {osl : Array (Option Value)} {kV doc pm cdv ct : Value} (X : K.In h) (G : h.Ns mainGlobals mg) (hfa : mg x = some (.ref fa)) (a : PySem.W.nsIn K mainGlobals x = some (some (.ref f)))
    (l : K.lookup f = some ⟨oc, od, .func (PySem.W.fnOf x x (defArgs st) (defBody st) (defScope st) .none kV doc pm an cdv ct), osl⟩) (c : PySem.W.codeIn K cdv x = true) (k : PySem.W.keepIn K (.ref f) = true)
    (b : ∀ (kV doc pm : Value) (an : Option Addr) (cdv ct : Value) (u : Value), bindArgs (PySem.W.fnOf x x (defArgs st) (defBody st) (defScope st) .none kV doc pm an cdv ct) ⟨[u], []⟩ = pure [(("script" : Str), u)]) :
    ∃ fd : FuncData, (∀ (s : Shared) (u : Value), BindsTo s fd ⟨[u], []⟩ [("script", u)]) ∧ FunV K x x st fa fd := by
  have e := hfa.symm.trans (PySem.W.mg_of X G a)
  cases e
  exact ⟨_, fun s u => .of_eq (b kV doc pm an cdv ct u), ⟨oc, od, .none, kV, doc, pm, an, cdv, ct, osl, rfl, l, c⟩, k⟩
end
end DL
set_option maxRecDepth 100000
set_option maxHeartbeats 4000000
/-! DLo: objects of an own class: made, read, compared. -/
namespace DL
open PySem L2 PySem.Spec PyProof.Rows
section
variable {X : Cx} {CX : CXT} {k j : Nat} {C f : Addr} {fd : FuncData} {ps : List Str} {sp : Sp} {x : Str} {p pos : Pos} {e : Expr} {es : List Expr} {t : TA} {ds : List Value} {dvs : List V} {E : XK}
theorem rungM {pins : List (Addr × Obj)} {σ : L2.St} {H : Hp} {s : Shared} {Q : VK} {us : List Value} {vs : List V} (M : Mk X.K C f) (F : FnG X.prog X.w X.K X.mg X.base CX k f fd ps sp) (hr : Room (k + 1) X.A) (ng : NoG X.A) (hb : Binds X.K fd ps []) (hx : PassesAt CX X σ E)
    (I : L2.Inv X pins σ H s) (r : Vals vs us)
    (h : ∀ x dx, H x = none → H dx = none → dx ≠ x → sp (.ref x :: vs) (upd (upd H dx (.own x)) x (.ins C dx [])) (fun v H2 => v = .non ∧ Q (.ref x) H2) E) :
    wpAny (model X.prog X.w) X.A (call (.ref C) us) (EP X pins σ Q) X.xe s := by
  have want := h (s.heap.objs.size + 1) s.heap.objs.size (I.hok.fresh (Nat.le_succ _)) (I.hok.fresh (Nat.le_refl _)) (Nat.ne_of_lt (Nat.lt_succ_self _))
  have I2 := Inv.made (C := C) I
  have both : Vals (V.ref (s.heap.objs.size + 1) :: vs) (Value.ref (s.heap.objs.size + 1) :: us) := .cons rfl r
  have same : (Value.ref (s.heap.objs.size + 1) :: us ++ []).length = ps.length := by
    rw [List.append_nil, ← both.length]; exact F.len _ _ _ _ want
  have bnd := hb _ (Value.ref (s.heap.objs.size + 1) :: us) I2.kIn same
  rw [List.append_nil] at bnd
  refine wpAny_call (make_map (f := f) I.kIn M.makes M.init (beq_iff_eq.mp M.fn) (codeAny_mono (F.run _ (hr.make C us []) ng X.stack _ _ ⟨Value.ref (s.heap.objs.size + 1) :: us, []⟩ (Value.ref (s.heap.objs.size + 1) :: us) _ _ E
    (I2.env0.make C us []) bnd both want) fun res s' got => ?_))
  cases res with
  | error er => exact hx _ _ _ er s' I2 got
  | ok flow => cases flow with
    | ret u =>
      obtain ⟨v, H', I3, rv, ev, q3⟩ := I2.after got
      subst ev
      exact ⟨rv, ⟨V.ref (s.heap.objs.size + 1), H', I3, rfl, q3⟩⟩
    | next => exact got.elim
    | brk => exact got.elim
    | cont => exact got.elim
end
/-! ### self under construction -/
theorem putF_snoc {f : Str} {v : V} : ∀ {ns : List Str} {xs : List V}, ns.length = xs.length → f ∉ ns → putF f v (ns.zip xs) = (ns ++ [f]).zip (xs ++ [v])
  | [], [], _, _ => rfl
  | n :: ns, x :: xs, h, hn => by
    have h' : ns.length = xs.length := by simpa using h
    have hn' : ¬ n = f := fun z => hn (by rw [z]; exact List.mem_cons_self)
    show (if n = f then _ else (n, x) :: putF f v (ns.zip xs)) = _
    rw [if_neg hn', putF_snoc h' fun z => hn (List.mem_cons_of_mem _ z)]
    rfl
section
variable {c : Ct} {Hb Hd0 H0 : Hp} {σ σ' : L2.St} {Γ Γ' : List Sk} {Hd H Hd' H' : Hp} {n n' m : Nat} {i : Nat}
theorem Ok.writeSlf (o : Ok c Hb Hd0 H0 σ Γ Hd H n) {l x C dx : Addr} {ns ns' : List Str} {ds es : List D} {vs : List V} (hi : Γ[i]? = some (.slf x C dx ns ds)) (hs : σ[i]? = some (some (.ref l))) (hl' : ns'.length = vs.length) (r : Reps c.K Hd vs es) :
    Ok c Hb Hd0 H0 σ (Γ.set i (.slf x C dx ns' es)) Hd (upd H l (.ins C dx (ns'.zip vs))) n := by
  obtain ⟨l', ws, e, h1, hz, h2, h3, ne⟩ := o.sr.ok i _ _ hs hi
  cases e
  have hl : i < Γ.length := (List.getElem?_eq_some_iff.mp hi).1
  have f0 := o.fr i _ _ hi rfl hs
  refine ⟨o.b, o.s0, o.g.write f0 h2, ⟨by rw [List.length_set]; exact o.sr.len, fun j o' k q1 q2 => ?_, fun j j' k1 k2 b nj q1 o1 q2 o2 e1 e2 => ?_⟩, o.pe.write ne, fun j k b q1 o1 q3 => ?_⟩
  · by_cases e : i = j
    · subst e
      rw [List.getElem?_set_self hl] at q2; cases q2
      rw [hs] at q1; cases q1
      exact ⟨l, vs, rfl, upd_same, ⟨hl', hz.2⟩, h2, r, ne⟩
    · rw [List.getElem?_set_ne e] at q2
      have old := o.sr.ok j _ _ q1 q2
      cases k with
      | own _ =>
        obtain ⟨l2, w2, e2, b1, b2⟩ := old
        subst e2
        have nl : l2 ≠ l := fun z => by subst z; exact o.sr.ap i j _ _ _ e hi rfl q2 rfl hs q1
        exact ⟨l2, w2, rfl, by rw [upd_ne nl]; exact b1, b2⟩
      | ow _ _ =>
        obtain ⟨l2, w2, e2, b1, b2⟩ := old
        subst e2
        have nl : l2 ≠ l := fun z => by subst z; exact o.sr.ap i j _ _ _ e hi rfl q2 rfl hs q1
        exact ⟨l2, w2, rfl, by rw [upd_ne nl]; exact b1, b2⟩
      | odk _ _ =>
        obtain ⟨l2, w2, e2, b1, b2⟩ := old
        subst e2
        have nl : l2 ≠ l := fun z => by subst z; exact o.sr.ap i j _ _ _ e hi rfl q2 rfl hs q1
        exact ⟨l2, w2, rfl, by rw [upd_ne nl]; exact b1, b2⟩
      | slf _ _ _ _ _ =>
        obtain ⟨l2, w2, e2, b1, b2⟩ := old
        subst e2
        have nl : l2 ≠ l := fun z => by subst z; exact o.sr.ap i j _ _ _ e hi rfl q2 rfl hs q1
        exact ⟨l2, w2, rfl, by rw [upd_ne nl]; exact b1, b2⟩
      | _ => exact old
  · have back : ∀ {j : Nat} {k : Sk}, (Γ.set i (.slf x C dx ns' es))[j]? = some k → k.isOwn = true → ∃ k', Γ[j]? = some k' ∧ k'.isOwn = true := fun {j k} q oq => by
      by_cases e : i = j
      · subst e; exact ⟨_, hi, rfl⟩
      · rw [List.getElem?_set_ne e] at q; exact ⟨_, q, oq⟩
    obtain ⟨k1', a1, b1⟩ := back q1 o1
    obtain ⟨k2', a2, b2⟩ := back q2 o2
    exact o.sr.ap j j' k1' k2' b nj a1 b1 a2 b2 e1 e2
  · by_cases e : i = j
    · subst e
      exact o.fr i _ b hi rfl q3
    · rw [List.getElem?_set_ne e] at q1
      exact o.fr j k b q1 o1 q3
end
def SlfAt (Γ : List Sk) (i : Nat) (ω : Addr → Addr → Addr → List Str → List D → Prop) : Prop := match Γ[i]? with | some (.slf x C dx ns ds) => ω x C dx ns ds | _ => False
@[simp] theorem slfAt_0 {Γ : List Sk} {x C dx : Addr} {ns : List Str} {ds : List D} {ω : Addr → Addr → Addr → List Str → List D → Prop} : SlfAt (.slf x C dx ns ds :: Γ) 0 ω = ω x C dx ns ds := rfl
@[simp] theorem slfAt_s {Γ : List Sk} {s : Sk} {i : Nat} {ω : Addr → Addr → Addr → List Str → List D → Prop} : SlfAt (s :: Γ) (i + 1) ω = SlfAt Γ i ω := rfl
theorem slfAt_get {Γ : List Sk} {i : Nat} {ω : Addr → Addr → Addr → List Str → List D → Prop} (h : SlfAt Γ i ω) : ∃ x C dx ns ds, Γ[i]? = some (.slf x C dx ns ds) ∧ ω x C dx ns ds := by
  unfold SlfAt at h
  split at h
  · rename_i x C dx ns ds e; exact ⟨x, C, dx, ns, ds, e, h⟩
  · exact h.elim
section
variable {K : PySem.W.Frag} {E : XK}
/-- self.f = e in __init__ -/
def WS.fld (i : Nat) (f : Str) (e : WE K E) : WS K E := ⟨sFld K (tVar i) e.t f, e.m, fun χ Γ W => e.w χ Γ fun d => SlfAt Γ i fun x C dx ns ds => Cls K C ∧ NoAttr K C f ∧ f ∉ ns ∧ ns.length < 900 ∧ W.N (Γ.set i (.slf x C dx (ns ++ [f]) (ds ++ [d]))), fun {p χ Γ W} h Hb Hd0 H0 σ Hd H n o l x En k1 k2 k3 k4 => by
  refine e.ok h σ Hd H n o.sr o.g.s o.pe l (x.grow o.g) _ fun v d Hd1 H1 g1 pe1 hS r => ?_
  obtain ⟨y, C, dx, ns, ds, e1, c, na, nf, hn, w⟩ := slfAt_get hS
  have o1 := o.grow g1 pe1
  obtain ⟨o', hs, a, vs, eo, q1, q2, q3, q4, ne⟩ := o1.sr.get e1
  subst eo
  refine ⟨_, hs, a, C, dx, _, rfl, q1, c, na, by rw [List.length_zip]; omega, ?_⟩
  rw [putF_snoc q2.1 nf]
  exact k1 _ _ _ _ w (o1.writeSlf e1 hs (by simp [q2.1]) (q4.append (.cons r .nil)))⟩
theorem w_fld {i : Nat} {f : Str} {e : WE K E} {χ : Xq} {Γ : List Sk} {W : Wh} : (WS.fld i f e).w χ Γ W = e.w χ Γ fun d => SlfAt Γ i fun x C dx ns ds => Cls K C ∧ NoAttr K C f ∧ f ∉ ns ∧ ns.length < 900 ∧ W.N (Γ.set i (.slf x C dx (ns ++ [f]) (ds ++ [d]))) := rfl
/-- o.f of a finished object -/
def WE.fldR (f : Str) (e : WE K E) : WE K E := ⟨tFld K e.t f, e.m, fun χ Γ φ => e.w χ Γ fun x => ∃ C ns ds y, x = .obj C ns ds ∧ Cls K C ∧ NoAttr K C f ∧ lookD ns ds f = some y ∧ φ y, fun {p χ Γ φ} h σ Hd H n s sa pe l x Q q =>
  e.ok h σ Hd H n s sa pe l x _ fun v d' Hd1 H1 g1 pe1 ⟨C, ns, ds, y, e1, c, na, e4, f1⟩ r => by
    subst e1
    cases r with
    | obj h1 h2 h3 =>
      obtain ⟨v, q1, q2⟩ := look_zip h3 e4
      exact ⟨_, _, _, _, v, rfl, g1.s _ _ h1, c, na, q1, q v y Hd1 H1 g1 pe1 f1 q2⟩⟩
theorem w_fldR {f : Str} {e : WE K E} {χ : Xq} {Γ : List Sk} {φ : D → Prop} : (WE.fldR f e).w χ Γ φ = e.w χ Γ fun x => ∃ C ns ds y, x = .obj C ns ds ∧ Cls K C ∧ NoAttr K C f ∧ lookD ns ds f = some y ∧ φ y := rfl
end
/-! ### __init__ and C(..) -/
/-- what __init__ of the class at C, whose fields are ns, keeps -/
def SpNew (K : PySem.W.Frag) (C : Addr) (ns : List Str) (pre : List D → Prop) (post : List D → List D → Prop) (χ : List D → Xq) : Sp := fun vs H Q E => ∃ (x dx : Addr) (ws : List V) (Hd : Hp) (ds : List D), vs = .ref x :: ws ∧ H x = some (.ins C dx []) ∧ Hd x = none ∧ Same Hd H ∧ Reps K Hd ws ds ∧ pre ds ∧
  (∀ (xs : List V) (es : List D) (Hd' H' : Hp), Grow none Hd (del H x) Hd' H' → Hd' x = none → H' x = some (.ins C dx (ns.zip xs)) → ns.length = xs.length → Reps K Hd' xs es → post ds es → Q .non H') ∧
  ∀ C' fx fs Hd' H', Grow none Hd (del H x) Hd' H' → χ ds C' fs → XAt K Hd' H' fx fs → E (.ref C') (some fx) H'
def GS (N : List Str) (x C dx : Addr) (ds : List D) : List Sk := .slf x C dx [] [] :: (ds.map .dat ++ List.replicate (N.length - 1 - ds.length) .un)
theorem GS_own {N : List Str} {x C dx : Addr} {ds : List D} {i : Nat} {k : Sk} (h : (GS N x C dx ds)[i]? = some k) (ho : k.isOwn = true) : i = 0 := by
  cases i with
  | zero => rfl
  | succ i =>
    have h' : (G1 N ds)[i + 1]? = some k := h
    rw [G1_own h'] at ho; cases ho
theorem sr_startS {K : PySem.W.Frag} {x C dx : Addr} {Hd H : Hp} {N : List Str} {vs : List V} {ds : List D} (r : Reps K Hd vs ds) (hx : H x = some (.ins C dx [])) (hd : Hd x = none) : SR K none Hd H (L2.start N (.ref x :: vs)) (GS N x C dx ds) := by
  have hl := r.length
  have e : L2.start N (.ref x :: vs) = some (.ref x) :: L2.start (N.drop 1) vs := by
    unfold L2.start
    simp only [List.map_cons, List.cons_append, List.length_cons, List.length_drop]
    congr 3
    omega
  have e2 : GS N x C dx ds = .slf x C dx [] [] :: G0 (N.drop 1) ds := by unfold GS G0; rw [List.length_drop]
  rw [e, e2]
  have s := sr_start (K := K) (p := none) (Hd := Hd) (H := H) (N := N.drop 1) r
  refine ⟨by rw [List.length_cons, List.length_cons, s.len], fun i o k h1 h2 => ?_, fun i j k1 k2 l ne h1 o1 h2 o2 => ?_⟩
  · cases i with
    | zero => cases h1; cases h2; exact ⟨x, [], rfl, hx, ⟨rfl, rfl⟩, hd, .nil, by show (none : Option Addr) ≠ some x; simp⟩
    | succ i => exact s.ok i o k h1 h2
  · cases i with
    | zero => cases j with
      | zero => exact absurd rfl ne
      | succ j => rw [G0_own (show (G0 (N.drop 1) ds)[j]? = some k2 from h2)] at o2; cases o2
    | succ i => rw [G0_own (show (G0 (N.drop 1) ds)[i]? = some k1 from h1)] at o1; cases o1
section
variable {P : Program} {w : World} {K : PySem.W.Frag} {mg : Str → Option Value} {base : Heap} {qual : Str} {st : Stmt} {fI C : Addr} {fd : FuncData} {N ps ns : List Str} {k : Nat} {pre : List D → Prop} {post : List D → List D → Prop} {χ : List D → Xq}
theorem fnNew (T : ∀ E : XK, WS K E) (F : FunV K "__init__" qual st fI fd) (S : FnScope N ps (defScope st)) (hl : ∀ ds, pre ds → ds.length + 1 = ps.length)
    (hb : ∀ (f : Addr) (cdv : Value) (A : Around) (outer : List Env) (s : Shared) (H : Hp) (E : XK), Room k (A.deeper (envOfC qual (defScope st) s.heap.objs.size f cdv)) → NoG (A.deeper (envOfC qual (defScope st) s.heap.objs.size f cdv)) →
      ∃ t, PSs (cxOf (L2.CX P w) P w K mg base N qual (defScope st) f cdv A outer s H E) (defBody st) t ∧ t = (T E).t) (hm : ∀ E, (T E).m = 0)
    (hw : ∀ E x dx ds, pre ds → (T E).w (χ ds) (GS N x C dx ds) { N := fun G => ∃ es, G[0]? = some (.slf x C dx ns es) ∧ post ds es, R := fun _ => False, B := fun _ => False, C := fun _ => False }) : FnG P w K mg base (L2.CX P w) (k + 1) fI fd ps (SpNew K C ns pre post χ) := by
  refine fng_of F S (fun vs H Q E h => ?_) (fun cdv A outer s H vs Q E hr ng h => ?_)
  · obtain ⟨x, dx, ws, Hd, ds, rfl, _, _, _, r, hp, _⟩ := h
    rw [List.length_cons, r.length, hl ds hp]
  · obtain ⟨x, dx, ws, Hd, ds, rfl, hx, hdx, sa, r, hp, q, qx⟩ := h
    have sd : Same Hd (del H x) := fun b o e => by
      have nb : b ≠ x := fun z => by subst z; rw [hdx] at e; cases e
      rw [del_ne nb]; exact sa _ _ e
    have g0 : Grow none Hd (del H x) Hd H := ⟨Same.refl _, fun b o _ e => by
      by_cases z : b = x
      · subst z; rw [del_same] at e; cases e
      · rw [del_ne z] at e; exact e, sa, fun _ _ z => z, fun b e => by
      by_cases z : b = x
      · subst z; rw [hx]; exact fun y => nomatch y
      · rw [del_ne z] at e; exact e⟩
    refine ⟨(T E).t, (hb fI cdv A outer s H E hr ng).elim fun t h => h.2 ▸ h.1, (T E).ok (p := none) (χ := χ ds) (hw E x dx ds hp) Hd Hd (del H x) _ Hd H 0 ⟨Same.refl _, sd, g0, sr_startS r hx hdx, True.intro, fun i k' l h1 h2 h3 => ?_⟩ (by rw [hm E]; decide) (fun C' fx fs Hd' H' g hh xa => qx C' fx fs Hd' H' g hh xa) _ ?_ ?_ ?_ ?_⟩
    · have e0 := GS_own h1 h2
      subst e0
      have e1 : (L2.start N (.ref x :: ws))[0]? = some (some (.ref x)) := rfl
      rw [e1] at h3
      cases h3
      exact del_same
    · intro Γ' σ' Hd' H' hN o
      obtain ⟨es, e1, hp'⟩ := hN
      obtain ⟨o', hs, a, vs, eo, q1, q2, q3, q4, ne⟩ := o.sr.get e1
      obtain ⟨q2, rfl⟩ := q2
      exact q vs es Hd' H' o.g q3 q1 q2 q4 hp'
    · intro _ _ _ _ z; exact z.elim
    · intro _ _ _ _ z; exact z.elim
    · intro v d Hd' H' z; exact z.elim
end
/-- a class that may be made by its name -/
structure MakX (P : Program) (w : World) (K : PySem.W.Frag) (mg : Str → Option Value) (base : Heap) (x : Str) (k : Nat) (C : Addr) (sp : Sp) : Prop where
  ex : ∃ f fd ps, Mk K C f ∧ FnG P w K mg base (L2.CX P w) k f fd ps sp ∧ mg x = some (.ref C) ∧ Binds K fd ps []
def tMakeSD (C : Addr) (sp : Sp) (E : L2.St → XK) (t : TA) : TE := fun σ H Q => t σ H fun vs H1 => ∀ x dx, H1 x = none → H1 dx = none → dx ≠ x → sp (.ref x :: vs) (upd (upd H1 dx (.own x)) x (.ins C dx [])) (fun v H2 => v = .non ∧ Q (.ref x) H2) (E σ)
theorem peg_makX {X : Cx} {k j : Nat} {C : Addr} {sp : Sp} {x : Str} {p pos : Pos} {e : Expr} {es : List Expr} {t : TA} {W : WX} (M : MakX X.prog X.w X.K X.mg X.base x j C sp) (hr : Room k X.A) (hj : j + 1 ≤ k) (ng : NoG X.A) (hg : Gl X x) (tk : Takes X W) (ha : PA X (e :: es) t)
    (h1 : (x == ("__debug__" : Str)) = false := by decide) (h2 : starEach (e :: es) X.env = (false, eval e X.env) :: starEach es X.env := by rfl) (h3 : (backTo pos (starEach es X.env)).any (·.1) = false := by rfl) : PE X (.Call (.Name x p) (e :: es) [] pos) (tMakeSD C sp (L2.WE W) t) := by
  obtain ⟨f, fd, ps, m, F, hm, hb⟩ := M.ex
  refine ⟨fun pins s σ H Q I h => ?_⟩
  refine wpAny_Call_Name_kw (ld_glob I hg hm ?_ h1)
  refine PySem.W.callWith_K (h₀ := X.base) I.ok.mod.kin m.kp (thn (ha.run pos pins s σ H _ I h) fun us s1 ⟨vs, H1, I1, r, q⟩ => ⟨I1.kIn, ?_⟩) h2 h3
  exact rungM m F (hr.mono hj) ng hb (passAt tk σ) I1 r q
theorem Grow.onto {p : Option Addr} {Hd H H1 Hd' H' : Hp} (sa : Same Hd H) (e : Same H H1) (g : Grow none Hd H1 Hd' H') : Grow p Hd H Hd' H' :=
  ⟨g.d, fun b o _ z => g.h b o (by simp) (e _ _ z), g.s, fun a n z => g.f a (fun y => by
    cases q : H a with
    | none => exact n q
    | some o => rw [e _ _ q] at y; cases y) z, fun a n => g.m a fun y => by
    cases q : H a with
    | none => exact n q
    | some o => rw [e _ _ q] at y; cases y⟩
section
variable {K : PySem.W.Frag} {E : XK}
/-- C(..), C an own class: may raise -/
def WE.mkX (C : Addr) (ns : List Str) (pre : List D → Prop) (post : List D → List D → Prop) (χ' : List D → Xq) (a : WA K E) : WE K E := ⟨tMakeSD C (SpNew K C ns pre post χ') (fun _ => E) a.t, a.m, fun χ Γ φ => a.w χ Γ fun ds => pre ds ∧ (∀ es, post ds es → φ (.obj C ns es)) ∧ ∀ C' fs, χ' ds C' fs → χ C' fs, fun {p χ Γ φ} h σ Hd H n s sa pe l x Q q => by
  refine a.ok h σ Hd H n s sa pe l x _ fun vs ds Hd1 H1 g1 pe1 ⟨f1, f2, f3⟩ r y dx hy hdx hne => ?_
  have hd1 : Hd1 y = none := g1.s.free hy
  have up : Same H1 (upd (upd H1 dx (.own y)) y (.ins C dx [])) := fun b o e => by rw [upd_ne (ne_of_none e hy), upd_ne (ne_of_none e hdx)]; exact e
  have upd' : Same H1 (del (upd (upd H1 dx (.own y)) y (.ins C dx [])) y) := fun b o e => by rw [del_ne (ne_of_none e hy)]; exact up _ _ e
  refine ⟨y, dx, vs, Hd1, ds, rfl, upd_same, hd1, g1.s.trans up, r, f1, fun xs es Hd' H' g hn hx hl rx hp => ⟨rfl, ?_⟩, fun C' fx fs Hd' H' g hh xa => ?_⟩
  · have G0 : Grow none Hd1 H1 Hd' H' := Grow.onto g1.s upd' g
    have me : Same Hd' (L2.upd Hd' y (.ins C dx (ns.zip xs))) := fun b o e => by rw [upd_ne (ne_of_none e hn)]; exact e
    have G : Grow none Hd1 H1 (L2.upd Hd' y (.ins C dx (ns.zip xs))) H' := ⟨G0.d.trans me, G0.h, fun b o e => by
      by_cases z : b = y
      · subst z; rw [upd_same] at e; cases e; exact hx
      · rw [upd_ne z] at e; exact G0.s _ _ e, fun a n z => by
      have na : a ≠ y := fun w => by subst w; exact n hy
      rw [upd_ne na]; exact G0.f a n z, G0.m⟩
    exact q _ _ _ H' (g1.trans G.up) (pe1.grow G) (f2 es hp) (.obj upd_same hl (rx.mono me))
  · exact x C' fx fs Hd' H' (g1.trans (Grow.onto g1.s upd' g)) (f3 C' fs hh) xa⟩
theorem w_mkX {C : Addr} {ns : List Str} {pre : List D → Prop} {post : List D → List D → Prop} {χ' : List D → Xq} {a : WA K E} {χ : Xq} {Γ : List Sk} {φ : D → Prop} : (WE.mkX C ns pre post χ' a).w χ Γ φ = a.w χ Γ fun ds => pre ds ∧ (∀ es, post ds es → φ (.obj C ns es)) ∧ ∀ C' fs, χ' ds C' fs → χ C' fs := rfl
end
/-! ### == by an own __eq__ -/
structure EqC (K : PySem.W.Frag) (C f : Addr) : Prop where
  eq : PySem.W.findIn K (.ref C) "__eq__" = some (some (.ref f))
  fn : PySem.W.isFn K (.ref f) = true
  it : PySem.W.subIn K (.type "int") (.ref C) = some false
  tt : PySem.W.subIn K (.type "tuple") (.ref C) = some false
/-- what may stand beside an object of the class: an int, an object of the class, a tuple -/
def YOk (K : PySem.W.Frag) (C : Addr) (H : Hp) (y : V) : Prop := (∃ i, y = .int i) ∨ (∃ b dy gs, y = .ref b ∧ H b = some (.ins C dy gs)) ∨ ∃ b xs, y = .ref b ∧ SqT K H b xs
def rEqO (K : PySem.W.Frag) (C : Addr) (sp : Sp) : R2 := fun x y H Q => ∃ a dx fs, x = .ref a ∧ H a = some (.ins C dx fs) ∧ YOk K C H y ∧ sp [x, y] H (fun v H' => (∃ b, v = .bl b) ∧ Q v H') L2.E0
section
variable {X : Cx} {C f : Addr} {k : Nat} {fd : FuncData} {ps : List Str} {sp : Sp}
theorem yType (M : EqC X.K C f) {pins : List (Addr × Obj)} {σ : L2.St} {H : Hp} {s : Shared} {y : V} {u : Value} (I : L2.Inv X pins σ H s) (hy : YOk X.K C H y) (r : RelV y u) : ∃ tb, PySem.W.Looks (model X.prog X.w) s.heap (typeOf u) tb ∧ PySem.W.notFirst X.K C tb = true := by
  rcases hy with ⟨i, rfl⟩ | ⟨b, dy, gs, rfl, hb⟩ | ⟨b, xs, rfl, hb⟩
  · obtain ⟨t, rfl⟩ := r
    exact ⟨.type "int", .of_pure rfl, by unfold PySem.W.notFirst; rw [M.it]; simp⟩
  · cases r
    obtain ⟨mB, J, _⟩ := ins_get I.hok hb
    obtain ⟨od, J, _⟩ := J.look
    exact ⟨.ref C, J.type, by simp [PySem.W.notFirst]⟩
  · cases r
    obtain ⟨its, _, ⟨o, ho, hc, _⟩, _⟩ := I.tuple hb
    exact ⟨.type "tuple", (PySem.W.Looks.ld ho).andThen (by rw [hc]; exact .now), by unfold PySem.W.notFirst; rw [M.tt]; simp⟩
theorem op_eqO (M : EqC X.K C f) (F : FnG X.prog X.w X.K X.mg X.base CX0 k f fd ps sp) (hr : Room k X.A) (ng : NoG X.A) (hb : Binds X.K fd ps []) : OpR X (compareOp .Eq) (rEqO X.K C sp) := by
  intro pins s σ H x y v u Q I rx ry hq
  obtain ⟨a, dx, fs, rfl, ha, hy, want⟩ := hq
  cases rx
  obtain ⟨mA, J, _⟩ := ins_get I.hok ha
  obtain ⟨od, J, _⟩ := J.look
  obtain ⟨m, hF⟩ := I.fr
  obtain ⟨tb, t1, t2⟩ := yType M I hy ry
  have both : Vals [V.ref a, y] [Value.ref a, u] := .cons rfl (.cons ry .nil)
  have same : ([Value.ref a, u] ++ []).length = ps.length := by
    rw [List.append_nil, ← both.length]; exact F.len _ _ _ _ want
  have bnd := hb s [Value.ref a, u] I.kIn same
  rw [List.append_nil] at bnd
  show wpAny (model X.prog X.w) X.A (richCompare .Eq (.ref a) u) (EP X pins σ Q) X.xe s
  refine PySem.W.cmp_K (op := .Eq) (tb := tb) hr.units0 hF I.ok.mod.kin J t1 t2 M.eq M.fn ?_
  refine wpAny_call (codeAny_mono (F.run X.A hr ng X.stack s H ⟨[.ref a, u], []⟩ _ _ _ L2.E0 I.env0 bnd both want) fun res s' got => ?_)
  cases res with
  | error er => exact pass0 pins σ H s er s' I got
  | ok flow => cases flow with
    | ret w =>
      obtain ⟨z, H', I', rz, ⟨b, ez⟩, q⟩ := I.after got
      subst ez
      cases rz
      exact ⟨.bl b, H', I', rfl, q⟩
    | next => exact got.elim
    | brk => exact got.elim
    | cont => exact got.elim
end
/-- the class has no __ne__ of its own -/
structure NeC (K : PySem.W.Frag) (C f : Addr) : Prop where
  ex : ∃ (nm q : Str) (N : Addr) (bs : List Value) (hdct : Bool) (sn : List Str) (sub : List Value) (ab : Bool) (col : Option Bool) (dd : Option Addr) (k0 k1 k2 k3 k5 : Option Value) (newId : String) (es : Array DictEntry) (ep : Nat) (on : Obj),
    K.lookup C = some (excClassObj nm q C N bs [.type "object"] hdct sn sub ab col dd k0 k1 k2 k3 k5 newId) ∧ K.lookup N = some on ∧ on.data = .dict es ep ∧ StrKeys es ∧ nsFind es "__eq__" = some (.ref f) ∧ nsFind es "__ne__" = none
  fn : ∃ of, K.lookup f = some of ∧ of.cls = .type "function"
def rNeO (K : PySem.W.Frag) (C : Addr) (sp : Sp) : R2 := fun x y H Q => ∃ a dx fs b dy gs, x = .ref a ∧ H a = some (.ins C dx fs) ∧ y = .ref b ∧ H b = some (.ins C dy gs) ∧ sp [x, y] H (fun v H' => ∃ b, v = .bl b ∧ Q (.bl (!b)) H') L2.E0
theorem op_neO {X : Cx} {C f : Addr} {k : Nat} {fd : FuncData} {ps : List Str} {sp : Sp} (M : NeC X.K C f) (F : FnG X.prog X.w X.K X.mg X.base CX0 k f fd ps sp) (hr : Room (k + 1) X.A) (ng : NoG X.A) (hb : Binds X.K fd ps []) : OpR X (compareOp .NotEq) (rNeO X.K C sp) := by
  intro pins s σ H x y v u Q I rx ry hq
  obtain ⟨a, dx, fs, b, dy, gs, rfl, ha, rfl, hbb, want⟩ := hq
  cases rx
  cases ry
  obtain ⟨nm, q, N, bs, hdct, sn, sub, ab, col, dd, k0, k1, k2, k3, k5, newId, es, ep, on, lC, lN, dN, sk, eq, ne⟩ := M.ex
  obtain ⟨of, lf, cf⟩ := M.fn
  obtain ⟨mA, J, _⟩ := ins_get I.hok ha
  obtain ⟨od, J, _⟩ := J.look
  obtain ⟨mB, J', _⟩ := ins_get I.hok hbb
  obtain ⟨od', J', _⟩ := J'.look
  have both : Vals [V.ref a, V.ref b] [Value.ref a, Value.ref b] := .cons rfl (.cons rfl .nil)
  have same : ([Value.ref a, Value.ref b] ++ []).length = ps.length := by
    rw [List.append_nil, ← both.length]; exact F.len _ _ _ _ want
  have bnd := hb s [Value.ref a, Value.ref b] I.kIn same
  rw [List.append_nil] at bnd
  have own : s.heap.OwnEqNoNe a C f "object" [.type "object"] := ⟨_, of, nm, q, N, bs, hdct, sn, sub, ab, col, dd, k0, k1, k2, k3, k5, newId, nsFind es, _, J.at_, J.cls, I.kIn _ _ lC, ⟨on, es, ep, I.kIn _ _ lN, dN, sk, fun _ => rfl⟩, eq, I.kIn _ _ lf, cf, PySem.F.cmp_object.mro, by rfl, ne⟩
  refine compareOp_ne_ownEq PySem.F.cmp_object own J'.at_ J'.cls (hu_of hr) ?_
  have e0 : Env0 X.prog X.w X.K X.mg X.base X.A.in1 X.stack s H := by
    have e := I.env0
    exact ⟨e.frames, e.mod, e.bs, e.bsz, e.funs, e.frf, e.hok, e.bare⟩
  refine wpAny_call (codeAny_mono (F.run X.A.in1 hr.in1 ng X.stack s H ⟨[.ref a, .ref b], []⟩ _ _ _ L2.E0 e0 bnd both want) fun res s' got => ?_)
  cases res with
  | error er => exact pass0 pins σ H s er s' I got
  | ok flow => cases flow with
    | ret w =>
      obtain ⟨z, H', I', rz, b, ez, q⟩ := I.after got
      subst ez
      cases rz
      exact ⟨b, rfl, .bl (!b), H', I', rfl, q⟩
    | next => exact got.elim
    | brk => exact got.elim
    | cont => exact got.elim
/-! ### isinstance with an own class -/
structure IsC (K : PySem.W.Frag) (C : Addr) : Prop where
  ty : ∀ (H : Hp) (a dx : Addr) (fs : List (Str × V)), H a = some (.ins C dx fs) → TyOf K H (.ref a) (.ref C)
  kI : PySem.W.kitOne K (.type "int") (.ref C) = some false
  kT : PySem.W.kitOne K (.type "tuple") (.ref C) = some false
theorem kit_self {K : PySem.W.Frag} {C : Addr} : PySem.W.kitOne K (.ref C) (.ref C) = some true := by
  unfold PySem.W.kitOne
  rw [if_pos (by simp)]
/-- an object of the class, an int or a tuple: is it of the class? -/
def isCD (C : Addr) : D → Option Bool
  | .obj C' _ _ => if C' = C then some true else none
  | .int _ => some false
  | .tup _ => some false
  | _ => none
section
variable {K : PySem.W.Frag} {E : XK}
def WE.isC (C : Addr) (I : IsC K C) (a : WE K E) : WE K E := ⟨tCB (rIsi K) (tCons a.t (tCons (tC (.ref C)) tNil)), a.m, fun χ Γ φ => a.w χ Γ fun d => ∃ b, isCD C d = some b ∧ φ (.bl b), fun {p χ Γ φ} h σ Hd H n s sa pe l x Q q =>
  a.ok h σ Hd H n s sa pe l x _ fun v d Hd1 H1 g1 pe1 ⟨b, e, f⟩ r => by
    cases r with
    | @obj _ C' _ _ _ _ h1 h2 h3 =>
      have e' : (if C' = C then some true else none) = some b := e
      split at e'
      · rename_i z; cases e'; subst z
        exact ⟨_, _, _, _, true, rfl, .own _, .base (I.ty _ _ _ _ (g1.s _ _ h1)), kit_self, q _ _ Hd1 H1 g1 pe1 f (.bl _)⟩
      · cases e'
    | int i => cases e; exact ⟨_, _, _, _, false, rfl, .own _, rep_ty g1.s rfl (.int i), I.kI, q _ _ Hd1 H1 g1 pe1 f (.bl _)⟩
    | tup h1 h2 => cases e; exact ⟨_, _, _, _, false, rfl, .own _, rep_ty (d := .tup _) g1.s rfl (.tup h1 h2), I.kT, q _ _ Hd1 H1 g1 pe1 f (.bl _)⟩
    | _ => cases e⟩
theorem w_isC {C : Addr} {I : IsC K C} {a : WE K E} {χ : Xq} {Γ : List Sk} {φ : D → Prop} : (WE.isC C I a).w χ Γ φ = a.w χ Γ fun d => ∃ b, isCD C d = some b ∧ φ (.bl b) := rfl
def eqAble (C : Addr) : D → Bool
  | .obj C' _ _ => decide (C' = C)
  | .int _ => true
  | .tup _ => true
  | _ => false
/-- x == y by x's own __eq__ -/
def O2.eqO (C : Addr) (pre : List D → Prop) (post : List D → D → Prop) : O2 K := ⟨rEqO K C (SpP K pre post), fun x y φ => (∃ ns ds, x = .obj C ns ds) ∧ eqAble C y = true ∧ pre [x, y] ∧ ∀ d, post [x, y] d → (∃ b, d = .bl b) ∧ φ d, fun {p E χ a b φ} h x y Hd H s ra rb Q q => by
  obtain ⟨⟨ns, ds, rfl⟩, hy, hp, hq⟩ := h
  have ra' := ra
  cases ra with
  | obj h1 h2 h3 =>
    refine ⟨_, _, _, rfl, s _ _ h1, ?_, Hd, [.obj C ns ds, b], s, .cons ra' (.cons rb .nil), hp, fun v d Hd' H' g hd r => ?_⟩
    · cases rb with
      | int i => exact .inl ⟨i, rfl⟩
      | obj k1 k2 k3 =>
        have e := of_decide_eq_true (show decide (_ = C) = true from hy)
        subst e
        exact .inr (.inl ⟨_, _, _, rfl, s _ _ k1⟩)
      | tup k1 k2 => exact .inr (.inr ⟨_, _, rfl, same_sqt s k1⟩)
      | _ => cases hy
    · obtain ⟨⟨k, rfl⟩, f⟩ := hq d hd
      cases r
      exact ⟨⟨k, rfl⟩, q _ _ Hd' H' g f (.bl k)⟩⟩
/-- x != y, no __ne__ of its own -/
def O2.neO (C : Addr) (pre : List D → Prop) (post : List D → D → Prop) : O2 K := ⟨rNeO K C (SpP K pre post), fun x y φ => (∃ ns ds, x = .obj C ns ds) ∧ (∃ ns ds, y = .obj C ns ds) ∧ pre [x, y] ∧ ∀ d, post [x, y] d → ∃ b, d = .bl b ∧ φ (.bl (!b)), fun {p E χ a b φ} h x y Hd H s ra rb Q q => by
  obtain ⟨⟨ns, ds, rfl⟩, ⟨ms, es, rfl⟩, hp, hq⟩ := h
  have ra' := ra
  have rb' := rb
  cases ra with
  | obj h1 h2 h3 => cases rb with
    | obj k1 k2 k3 =>
      refine ⟨_, _, _, _, _, _, rfl, s _ _ h1, rfl, s _ _ k1, Hd, [.obj C ns ds, .obj C ms es], s, .cons ra' (.cons rb' .nil), hp, fun v d Hd' H' g hd r => ?_⟩
      obtain ⟨k, rfl, f⟩ := hq d hd
      cases r
      exact ⟨k, rfl, q _ _ Hd' H' g f (.bl _)⟩⟩
theorem q_eqO {C : Addr} {pre : List D → Prop} {post : List D → D → Prop} {x y : D} {φ : D → Prop} : (O2.eqO (K := K) C pre post).w x y φ = ((∃ ns ds, x = .obj C ns ds) ∧ eqAble C y = true ∧ pre [x, y] ∧ ∀ d, post [x, y] d → (∃ b, d = .bl b) ∧ φ d) := rfl
theorem q_neO {C : Addr} {pre : List D → Prop} {post : List D → D → Prop} {x y : D} {φ : D → Prop} : (O2.neO (K := K) C pre post).w x y φ = ((∃ ns ds, x = .obj C ns ds) ∧ (∃ ns ds, y = .obj C ns ds) ∧ pre [x, y] ∧ ∀ d, post [x, y] d → ∃ b, d = .bl b ∧ φ (.bl (!b))) := rfl
end
/-- what the written part says of an own class -/
structure OwnO (K : PySem.W.Frag) (mg : Str → Option Value) (x : Str) (C fI fE : Addr) (ns : List Str) : Prop where
  cl : Cls K C
  na : ∀ f ∈ ns, NoAttr K C f
  mak : Mk K C fI
  m : mg x = some (.ref C)
  eq : EqC K C fE
  ne : NeC K C fE
  is : IsC K C
end DL
set_option maxRecDepth 100000
set_option maxHeartbeats 4000000
/-! DLt: try with several clauses, each with a name for its error. -/
namespace DL
open PySem L2 PySem.Spec PyProof.Rows
/-- what the clauses wish of an error of the body, one behind the other; a clause: class, slot of its name, suite -/
def wSome (K : PySem.W.Frag) (Wo : WX) (En : Ends) : List (Value × Nat × (Addr → Value → Option Addr → TS)) → WX
  | [] => Wo
  | (c, i, ts) :: r => fun cls d σ H => ∃ y, PySem.W.exmOne K cls c = some y ∧
      (y = true → ∀ e, H e = none → ts e cls d { nx := fun σ' H' => En.nx (σ'.set i none) H', rt := En.rt, bk := fun σ' H' => En.bk (σ'.set i none) H', ct := fun σ' H' => En.ct (σ'.set i none) H' } (σ.set i (some (.ref e))) H) ∧ (y = false → wSome K Wo En r cls d σ H)
inductive ClOk (X : Cx) : List ExceptHandler → List (Value × Nat × (Addr → Value → Option Addr → TS)) → Prop
  | nil : ClOk X [] []
  | cons {x n : Str} {c : Value} {i : Nat} {ts : Addr → Value → Option Addr → TS} {st : Stmt} {sts : List Stmt} {np cp : Pos} {hds : List ExceptHandler} {l : List (Value × Nat × (Addr → Value → Option Addr → TS))} (hc : Names X x c) (hi : X.N[i]? = some n) (hl : X.env.kindOf n = some .local)
      (su : ∀ (e : Addr) (oe : Obj) (cls : Value) (d : Option Addr) (pn : List (Addr × Obj)), Zc cls d oe → (∃ vs, oe.data = .fields vs) → PSs (X.suite e ((e, oe) :: pn)) (st :: sts) (ts e cls d)) (r : ClOk X hds l) :
      ClOk X (.ExceptHandler (some (.Name x np)) (some n) (st :: sts) cp :: hds) ((c, i, ts) :: l)
section
variable {X : Cx} {body : List Stmt} {hd : ExceptHandler} {hds : List ExceptHandler} {l : List (Value × Nat × (Addr → Value → Option Addr → TS))} {pos : Pos} {tb : WX → TS} {Wo : WX}
theorem ps_try_someAs (stk : X.stack = X.env :: X.outer) (fra : X.env.frame = some X.env.locals) (nod : X.N.Nodup) (tk : Takes X Wo)
    (tried : ∀ (W : WX) (pn : List (Addr × Obj)) (xe : Value → Shared → Prop), Takes (X.tr pn xe) W → PassesOwn (model X.prog X.w) X.A X.env xe → PSs (X.tr pn xe) body (tb W)) (cl : ClOk X (hd :: hds) l) :
    PS X (.Try body (hd :: hds) [] [] pos) (fun En σ H => tb (wSome X.K Wo En l) En σ H) := by
  refine ⟨fun pins st σ H En Iv wish => ?_⟩
  have okk := Iv.ok
  have frm : X.A.frames = some (X.env :: X.outer) := by rw [okk.frames, stk]
  refine wpAny_Try_except (wpAny_mono ((tried (wSome X.K Wo En l) (X.pn ++ pins) (fun er t1 => wpAny (model X.prog X.w) X.A (noteFrame er X.env) (fun _ t2 => wpAny (model X.prog X.w) X.A (setFlight er none) (fun _ t3 =>
    wpAny (model X.prog X.w) X.A (handleBy er X.env (hd :: hds)) (SP X pins En) X.xe t3) X.xe t2) X.xe t1) (fun u t' got => ?_) PassesOwn.looking).run [] st σ H En (Iv.toTry _) wish) (fun fl t1 hsp => ?_) (fun er t1 z => z))
  · obtain ⟨e, B, tI, pins', σ', H', cls, d, rfl, J', nb, up, sky, na, os, ag, want⟩ := got
    have J : L2.Inv X pins σ' H' tI := J'.ofTry okk
    have sky' : Sky B (X.env :: X.outer) e (Zc cls d) X.env.locals t'.heap := by rw [← stk]; exact sky
    show wpAny _ X.A (noteFrame (.ref e) X.env) _ _ _
    refine Sky.land Zc.steady frm fra sky' fun g3 land3 up3 => ?_
    have K3 : L2.Inv X pins σ' H' { t' with heap := g3 } := J.landed nb land3.1 (up.trans up3) os ag
    obtain ⟨o3, v3, at3, zc3, da3⟩ := land3.there
    have off : e ∉ frs (X.env :: X.outer) := fun mem => by
      obtain ⟨_, o', at', no⟩ := land3.2.2.1.mem mem
      rw [at3] at at'
      cases at'
      exact no _ da3
    have offL : e ≠ X.env.locals := fun z => off (List.mem_filterMap.mpr ⟨X.env, List.mem_cons_self, by rw [fra, z]⟩)
    have offF : e ∉ X.fs := fun mem => by
      obtain ⟨en, inn, eq⟩ := List.mem_filterMap.mp mem
      exact off (List.mem_filterMap.mpr ⟨en, List.mem_cons_of_mem _ inn, eq⟩)
    have T3 := K3.suite at3 da3 na offL offF
    have all : ∀ {hs' : List ExceptHandler} {l' : List (Value × Nat × (Addr → Value → Option Addr → TS))}, ClOk X hs' l' → wSome X.K Wo En l' cls d σ' H' → wpAny (model X.prog X.w) X.A (handleBy (.ref e) X.env hs') (SP X pins En) X.xe { t' with heap := g3 } := by
      intro hs' l' c'
      induction c' with
      | nil =>
        intro out
        refine wpAny_handleBy_nil ?_
        obtain ⟨_, _, _, o4, v4, Tb, oT, ts', at4, zc4, da4, f1, _⟩ := id land3
        unfold PySem.passOn
        refine wpAny_bind (wpAny_field at4 da4 f1 ?_)
        rw [if_neg (show ¬ (Value.ref Tb == Value.none) = true from by simp)]
        have last : wpAny (model X.prog X.w) X.A (setFlight (.ref e) X.env.frame) (fun _ t4 => wpAny (model X.prog X.w) X.A (throw (.ref e) : Sem Flow) (SP X pins En) X.xe t4) X.xe { t' with heap := g3 } := by
          rw [fra]
          exact HandSPX.setFlight_upZ land3 fun g4 at4' up4 => wpAny_throw (tk _ _ ⟨e, B, tI, pins, σ', H', cls, d, rfl, J, nb, (up.trans up3).trans up4, .inr (.inr (by rw [stk]; exact at4')), na, os, ag, out⟩)
        first | exact wpAny_bind (wpAny_pure (wpAny_bind last)) | exact wpAny_bind last
      | @cons x n c i ts s0 sts np cp hs2 l2 hc hi hl su r again =>
        intro w
        obtain ⟨y, ask, yes, no⟩ := w
        refine wpAny_handleBy_cons (codeAny_handlers_test ?_) (fun z => nomatch z)
        have look : PySem.W.Looks (model X.prog X.w) g3 (typeOf (.ref e)) cls := fun _ _ _ t5 kp q5 => wpAny_typeOf_ref (kp _ _ at3) (by rw [zc3.1]; exact q5)
        have fits := PySem.W.exm_one (M := model X.prog X.w) K3.kIn look ask
        have named : ∀ {Q : Value → Shared → Prop} {E : Value → Shared → Prop}, Q c { t' with heap := g3 } → wpAny (model X.prog X.w) (X.A.mark (some (.ref e))) (eval (.Name x np) X.env) Q E { t' with heap := g3 } := fun {Q E} q => by
          obtain ⟨g1, g2, m1 | ⟨m1, m2, m3⟩⟩ := hc
          · exact ld_glob (X := X.suite e ((e, o3) :: (X.pn ++ pins))) T3 g1 m1 q g2
          · exact ld_blt (X := X.suite e ((e, o3) :: (X.pn ++ pins))) T3 g1 m1 m2 q m3 g2
        refine named (fits.here ?_)
        cases y with
        | false => exact again (no rfl)
        | true =>
          refine codeAny_handlers_suite_as (HandSPX.lands_againZ land3 fun g4 land4 up4 => ?_)
          have K4 : L2.Inv X pins σ' H' { t' with heap := g4 } := J.landed nb land4.1 ((up.trans up3).trans up4) os ag
          obtain ⟨o4, v4, at4, zc4, da4⟩ := land4.there
          have T4 := K4.suite at4 da4 na offL offF
          refine store_ok (X := X.suite e ((e, o4) :: (X.pn ++ pins))) (v := .ref e) T4 nod hi (.inl hl) rfl (fun t5 T5 => ?_) (.inr hl)
          refine wpAny_mono ((su e o4 cls d (X.pn ++ pins) zc4 ⟨_, da4⟩).run [] t5 _ H' _ T5 (yes rfl e na)) (fun fl t6 hsp => ?_) (fun _ _ z => z.elim)
          have gone : ∀ {σ6 : L2.St} {H6 : Hp} {Q : Shared → Prop}, L2.Inv (X.suite e ((e, o4) :: (X.pn ++ pins))) [] σ6 H6 t6 → (∀ t7, L2.Inv X pins (σ6.set i none) H6 t7 → Q t7) →
              wpAny (model X.prog X.w) X.A (do bindName X.env n .none; unbindBehindTheSuite X.env n cp) (fun _ t7 => Q t7) X.xe t6 := fun {σ6 H6 Q} T6 q6 => gone_ok (T6.unsuite okk) nod hi hl q6
          cases fl with
          | ret u => obtain ⟨v6, σ6, H6, T6, r6, q6⟩ := hsp; exact gone T6 fun t7 J7 => ⟨_, _, _, J7, r6, q6⟩
          | next => obtain ⟨σ6, H6, T6, q6⟩ := hsp; exact gone T6 fun t7 J7 => ⟨_, _, J7, q6⟩
          | brk => obtain ⟨σ6, H6, T6, q6⟩ := hsp; exact gone T6 fun t7 J7 => ⟨_, _, J7, q6⟩
          | cont => obtain ⟨σ6, H6, T6, q6⟩ := hsp; exact gone T6 fun t7 J7 => ⟨_, _, J7, q6⟩
    exact all cl want
  · cases fl with
    | ret u => obtain ⟨v, σ', H', J', r, q⟩ := hsp; exact ⟨v, σ', H', J'.ofTry okk, r, q⟩
    | next => obtain ⟨σ', H', J', q⟩ := hsp; exact wpAny_execs_nil ⟨σ', H', J'.ofTry okk, q⟩
    | brk => obtain ⟨σ', H', J', q⟩ := hsp; exact ⟨σ', H', J'.ofTry okk, q⟩
    | cont => obtain ⟨σ', H', J', q⟩ := hsp; exact ⟨σ', H', J'.ofTry okk, q⟩
end
/-! ### the bundle -/
structure Cl (K : PySem.W.Frag) (E : XK) where
  c : Value
  i : Nat
  s : Addr → Value → Option Addr → WS K E
section
variable {K : PySem.W.Frag} {E : XK}
def clT (cl : List (Cl K E)) : List (Value × Nat × (Addr → Value → Option Addr → TS)) := cl.map fun q => (q.c, q.i, fun a cls d => (q.s a cls d).t)
/-- what the clauses ask of an error of the class C with the fields fs -/
def ChW (K : PySem.W.Frag) (χ : Xq) (Γ : List Sk) (W : Wh) : List (Cl K E) → Xq
  | [], C, fs => χ C fs
  | q :: r, C, fs => ∃ y, PySem.W.exmOne K (.ref C) q.c = some y ∧
      (y = true → ∀ x dx, (q.s x (.ref C) (some dx)).w χ (Γ.set q.i (.dat (.exc x dx (fs.map (·.1)) (fs.map (·.2))))) { N := fun G => W.N (G.set q.i .un), R := W.R, B := fun G => W.B (G.set q.i .un), C := fun G => W.C (G.set q.i .un) }) ∧ (y = false → ChW K χ Γ W r C fs)
theorem chW_nil {χ : Xq} {Γ : List Sk} {W : Wh} {C : Addr} {fs : List (Str × D)} : ChW (E := E) K χ Γ W [] C fs = χ C fs := rfl
theorem chW_cons {χ : Xq} {Γ : List Sk} {W : Wh} {C : Addr} {fs : List (Str × D)} {q : Cl K E} {r : List (Cl K E)} : ChW K χ Γ W (q :: r) C fs = ∃ y, PySem.W.exmOne K (.ref C) q.c = some y ∧
      (y = true → ∀ x dx, (q.s x (.ref C) (some dx)).w χ (Γ.set q.i (.dat (.exc x dx (fs.map (·.1)) (fs.map (·.2))))) { N := fun G => W.N (G.set q.i .un), R := W.R, B := fun G => W.B (G.set q.i .un), C := fun G => W.C (G.set q.i .un) }) ∧ (y = false → ChW K χ Γ W r C fs) := rfl
theorem chain_ok {p : Pn} {χ : Xq} {Γ : List Sk} {W : Wh} {En : Ends} {Hb Hd0 H0 Hd H : Hp} {σ : L2.St} {n m : Nat} (o : Ok ⟨K, p, E, χ⟩ Hb Hd0 H0 σ Γ Hd H n) (l : n + m ≤ LIM) (x : Xs ⟨K, p, E, χ⟩ Hd0 H0) (k1 : ∀ Γ' σ' Hd' H', W.N Γ' → Ok ⟨K, p, E, χ⟩ Hb Hd0 H0 σ' Γ' Hd' H' (n + m) → En.nx σ' H') (k2 : ∀ Γ' σ' Hd' H', W.B Γ' → Ok ⟨K, p, E, χ⟩ Hb Hd0 H0 σ' Γ' Hd' H' (n + m) → En.bk σ' H')
    (k3 : ∀ Γ' σ' Hd' H', W.C Γ' → Ok ⟨K, p, E, χ⟩ Hb Hd0 H0 σ' Γ' Hd' H' (n + m) → En.ct σ' H') (k4 : ∀ v d Hd' H', W.R d → Grow p.a Hd0 H0 Hd' H' → PenO p (n + m) Hd' H' → Rep K Hd' v d → En.rt v H')
    {C dx : Addr} {fs : List (Str × D)} (xa : XAt K Hd H dx fs) : ∀ {cl : List (Cl K E)}, (∀ q ∈ cl, ∀ a c d, (q.s a c d).m ≤ m) → ChW K χ Γ W cl C fs → wSome K (fun cls d _ H => E cls d H) En (clT cl) (.ref C) (some dx) σ H
  | [], _, f => x C dx fs Hd H o.g f xa
  | q :: r, hm, f => by
    obtain ⟨y, f1, f2, f3⟩ := f
    refine ⟨y, f1, fun yt a' ha => ?_, fun yf => chain_ok o l x k1 k2 k3 k4 xa (fun q hq => hm q (List.mem_cons_of_mem _ hq)) (f3 yf)⟩
    obtain ⟨xs, e1, e2⟩ := xa
    have hl : (fs.map (·.1)).length = xs.length := by rw [e2.length, List.length_map, List.length_map]
    have o2 := o.set (i := q.i) (v := .ref a') (d := .exc a' dx (fs.map (·.1)) (fs.map (·.2))) (.exc e1 hl e2)
    have hm' := hm q List.mem_cons_self a' (.ref C) (some dx)
    refine (q.s a' (.ref C) (some dx)).ok (f2 yt a' dx) Hb Hd0 H0 _ _ _ _ o2 (by omega) x _ ?_ ?_ ?_ ?_
    · intro Γ' σ' Hd' H' f o3; exact k1 _ _ _ _ f (o3.unset.more (by omega))
    · intro Γ' σ' Hd' H' f o3; exact k2 _ _ _ _ f (o3.unset.more (by omega))
    · intro Γ' σ' Hd' H' f o3; exact k3 _ _ _ _ f (o3.unset.more (by omega))
    · intro v d Hd' H' f g pe r; exact k4 _ _ _ _ f g (pe.more (by omega)) r
theorem make_at {p : Pn} {χ : Xq} {Γ : List Sk} {φ : D → Prop} {ξ : Xq} {C : Addr} {ns : List Str} {pre : List D → Prop} {post : List D → List D → Prop} {χ' : List D → Xq} {a : WA K E} {F : XK}
    (h : a.w χ Γ fun ds => pre ds ∧ (∀ es, post ds es → φ (.obj C ns es)) ∧ ∀ C' fs, χ' ds C' fs → ξ C' fs) {σ : L2.St} {Hd H : Hp} {n : Nat} (s : SR K p Hd H σ Γ) (sa : Same Hd H) (pe : PenO p n Hd H) (l : n + a.m ≤ LIM) (x : Xs ⟨K, p, E, χ⟩ Hd H) {Q : VK}
    (q : ∀ v d Hd' H', Grow p.a Hd H Hd' H' → PenO p (n + a.m) Hd' H' → φ d → Rep K Hd' v d → Q v H') (qx : ∀ C' fx fs Hd' H', Grow p.a Hd H Hd' H' → PenO p (n + a.m) Hd' H' → ξ C' fs → XAt K Hd' H' fx fs → F (.ref C') (some fx) H') :
    tMakeSD C (SpNew K C ns pre post χ') (fun _ => F) a.t σ H Q := by
  refine a.ok h σ Hd H n s sa pe l x _ fun vs ds Hd1 H1 g1 pe1 ⟨f1, f2, f3⟩ r y dx hy hdx hne => ?_
  have free : Hd1 y = none := g1.s.free hy
  have up : Same H1 (upd (upd H1 dx (.own y)) y (.ins C dx [])) := fun b o e => by rw [upd_ne (ne_of_none e hy), upd_ne (ne_of_none e hdx)]; exact e
  have out : Same H1 (del (upd (upd H1 dx (.own y)) y (.ins C dx [])) y) := fun b o e => by rw [del_ne (ne_of_none e hy)]; exact up _ _ e
  refine ⟨y, dx, vs, Hd1, ds, rfl, upd_same, free, g1.s.trans up, r, f1, fun xs es Hd' H' g hn hx hl rx hp => ⟨rfl, ?_⟩, fun C' fx fs Hd' H' g hh xa => ?_⟩
  · have G0 : Grow none Hd1 H1 Hd' H' := Grow.onto g1.s out g
    have me : Same Hd' (L2.upd Hd' y (.ins C dx (ns.zip xs))) := fun b o e => by rw [upd_ne (ne_of_none e hn)]; exact e
    have G : Grow none Hd1 H1 (L2.upd Hd' y (.ins C dx (ns.zip xs))) H' := ⟨G0.d.trans me, G0.h, fun b o e => by
      by_cases z : b = y
      · subst z; rw [upd_same] at e; cases e; exact hx
      · rw [upd_ne z] at e; exact G0.s _ _ e, fun a n z => by
      have na : a ≠ y := fun w => by subst w; exact n hy
      rw [upd_ne na]; exact G0.f a n z, G0.m⟩
    exact q _ _ _ H' (g1.trans G.up) (pe1.grow G) (f2 es hp) (.obj upd_same hl (rx.mono me))
  · exact qx C' fx fs Hd' H' (g1.trans (Grow.onto g1.s out g)) (pe1.grow (Grow.onto g1.s out g)) (f3 C' fs hh) xa
/-- try: x = C(..) except C1 as n: .. except C2 as m: .. -/
def WS.tryMk (j : Nat) (C : Addr) (ns : List Str) (pre : List D → Prop) (post : List D → List D → Prop) (χ' : List D → Xq) (a : WA K E) (cl : List (Cl K E)) (m : Nat) (hm : ∀ q ∈ cl, ∀ a c d, (q.s a c d).m ≤ m) : WS K E :=
  ⟨fun En σ H => tAsg (tMakeSD C (SpNew K C ns pre post χ') (L2.WE (wSome K (fun cls d _ H => E cls d H) En (clT cl))) a.t) (gName j) En σ H, a.m + m,
   fun χ Γ W => a.w χ Γ fun ds => pre ds ∧ (∀ es, post ds es → W.N (Γ.set j (.dat (.obj C ns es)))) ∧ ∀ C' fs, χ' ds C' fs → ChW K χ Γ W cl C' fs,
   fun {p χ Γ W} h Hb Hd0 H0 σ Hd H n o l x En k1 k2 k3 k4 => by
    have go : tMakeSD C (SpNew K C ns pre post χ') (fun _ => fun cls d H' => wSome K (fun cls d _ H => E cls d H) En (clT cl) cls d σ H') a.t σ H fun v H' => En.nx (σ.set j (some v)) H' := by
      refine make_at (p := p) (χ := χ) (φ := fun d => W.N (Γ.set j (.dat d))) h o.sr o.g.s o.pe (by omega) (x.grow o.g) (fun v d Hd1 H1 g1 pe1 f r => ?_) fun C' fx fs Hd' H' g pe f xa => ?_
      · exact k1 _ _ _ _ f (((o.grow g1 pe1).set r).more (by omega))
      · exact chain_ok (n := n + a.m) (m := m) (o.grow g pe) (by omega) x (fun _ _ _ _ f o => k1 _ _ _ _ f (o.more (by omega))) (fun _ _ _ _ f o => k2 _ _ _ _ f (o.more (by omega))) (fun _ _ _ _ f o => k3 _ _ _ _ f (o.more (by omega))) (fun _ _ _ _ f g pe r => k4 _ _ _ _ f g (pe.more (by omega)) r) xa hm f
    exact go⟩
theorem w_tryMk {j : Nat} {C : Addr} {ns : List Str} {pre : List D → Prop} {post : List D → List D → Prop} {χ' : List D → Xq} {a : WA K E} {cl : List (Cl K E)} {m : Nat} {hm : ∀ q ∈ cl, ∀ a c d, (q.s a c d).m ≤ m} {χ : Xq} {Γ : List Sk} {W : Wh} : (WS.tryMk j C ns pre post χ' a cl m hm).w χ Γ W =
    a.w χ Γ fun ds => pre ds ∧ (∀ es, post ds es → W.N (Γ.set j (.dat (.obj C ns es)))) ∧ ∀ C' fs, χ' ds C' fs → ChW K χ Γ W cl C' fs := rfl
end
end DL
set_option maxRecDepth 100000
set_option maxHeartbeats 4000000
/-! DLl: a local list that is being changed is lent to a call whose answer holds no list. -/
namespace DL
open PySem L2 PySem.Spec PyProof.Rows
mutual
def noLst : D → Bool
  | .lst _ => false
  | .tup ds => noLsts ds
  | .dct _ ds => noLsts ds
  | .obj _ _ ds => noLsts ds
  | .exc _ _ _ ds => noLsts ds
  | .err _ _ _ => false
  | _ => true
def noLsts : List D → Bool
  | [] => true
  | d :: ds => noLst d && noLsts ds
end
section
variable {K : PySem.W.Frag} {Hd : Hp} {l : Addr} {ws : List V}
theorem sqt_del {a : Addr} {xs : List V} (hl : Hd l = some (.lst ws)) (h : SqT K Hd a xs) : SqT K (del Hd l) a xs := by
  rcases h with (h | ⟨o, h⟩) | h
  · exact .inl (.inl (by rw [del_ne (fun z => by subst z; rw [hl] at h; cases h)]; exact h))
  · exact .inl (.inr ⟨o, by rw [del_ne (fun z => by subst z; rw [hl] at h; cases h)]; exact h⟩)
  · exact .inr h
mutual
theorem rep_del (hl : Hd l = some (.lst ws)) : ∀ {v : V} {d : D}, noLst d = true → Rep K Hd v d → Rep K (del Hd l) v d
  | _, _, _, .non => .non
  | _, _, _, .bl b => .bl b
  | _, _, _, .int i => .int i
  | _, _, _, .str x => .str x
  | _, _, n, .lst _ _ => by cases n
  | _, _, n, .tup h r => .tup (sqt_del hl h) (reps_del hl n r)
  | _, _, n, .dct h e r => .dct (by rw [del_ne (fun z => by subst z; rw [hl] at h; cases h)]; exact h) e (reps_del hl n r)
  | _, _, n, .obj h e r => .obj (by rw [del_ne (fun z => by subst z; rw [hl] at h; cases h)]; exact h) e (reps_del hl n r)
  | _, _, n, .exc h e r => .exc (by rw [del_ne (fun z => by subst z; rw [hl] at h; cases h)]; exact h) e (reps_del hl n r)
  | _, _, _, .ptr a => .ptr a
  | _, _, n, .err _ _ _ _ => by cases n
  | _, _, n, .err0 _ => by cases n
theorem reps_del (hl : Hd l = some (.lst ws)) : ∀ {vs : List V} {ds : List D}, noLsts ds = true → Reps K Hd vs ds → Reps K (del Hd l) vs ds
  | _, _, _, .nil => .nil
  | _, _, n, .cons h r => by
    have n' := Bool.and_eq_true_iff.mp (show (noLst _ && noLsts _) = true from n)
    exact .cons (rep_del hl n'.1 h) (reps_del hl n'.2 r)
end
end
section
variable {c : Ct} {Γ : List Sk} {i m : Nat} {te : TE} {φ : D → Prop}
theorem ev_lend {ds : List D} (hi : Γ[i]? = some (.own ds)) (h : Ev c te (Γ.set i (.dat (.lst ds))) m fun d => noLst d = true ∧ φ d) (hx : ∀ C fs, ¬ c.χ C fs := by intro _ _ z; exact z) : Ev c te Γ m φ := fun σ Hd H n s sa pe l x Q q => by
  obtain ⟨o', hσ, a, vs, e, h1, h2, h3, ne⟩ := s.get hi
  subst e
  have hl : i < Γ.length := (List.getElem?_eq_some_iff.mp hi).1
  have mo : Same Hd (upd Hd a (.lst vs)) := fun b u e => by rw [upd_ne (ne_of_none e h2)]; exact e
  have sa' : Same (upd Hd a (.lst vs)) H := fun b u e => by
    by_cases z : b = a
    · subst z; rw [upd_same] at e; cases e; exact h1
    · rw [upd_ne z] at e; exact sa _ _ e
  have keepO : ∀ {j : Nat} {k : Sk}, (Γ.set i (.dat (.lst ds)))[j]? = some k → k.isOwn = true → i ≠ j ∧ Γ[j]? = some k := fun {j k} q oq => by
    by_cases e : i = j
    · subst e; rw [List.getElem?_set_self hl] at q; cases q; cases oq
    · rw [List.getElem?_set_ne e] at q; exact ⟨e, q⟩
  have s' : SR c.K c.p (upd Hd a (.lst vs)) H σ (Γ.set i (.dat (.lst ds))) := by
    refine ⟨by rw [List.length_set]; exact s.len, fun j o2 k q1 q2 => ?_, fun j j' k1 k2 b nj q1 o1 q2 o2 e1 e2 => s.ap j j' k1 k2 b nj (keepO q1 o1).2 o1 (keepO q2 o2).2 o2 e1 e2⟩
    by_cases e : i = j
    · subst e
      rw [List.getElem?_set_self hl] at q2; cases q2
      rw [hσ] at q1; cases q1
      exact ⟨_, rfl, .lst upd_same (h3.mono mo)⟩
    · rw [List.getElem?_set_ne e] at q2
      have old := s.ok j _ _ q1 q2
      cases k with
      | un => exact True.intro
      | dat d => obtain ⟨v, e1, e2⟩ := old; exact ⟨v, e1, e2.mono mo⟩
      | own _ =>
        obtain ⟨l2, w2, e2, b1, b2, b3, b4⟩ := old
        subst e2
        have nl : l2 ≠ a := fun z => by subst z; exact s.ap i j _ _ _ e hi rfl q2 rfl hσ q1
        exact ⟨l2, w2, rfl, b1, by rw [upd_ne nl]; exact b2, b3.mono mo, b4⟩
      | ow _ _ =>
        obtain ⟨l2, w2, e2, b1, bl, b2, b3, b4⟩ := old
        subst e2
        have nl : l2 ≠ a := fun z => by subst z; exact s.ap i j _ _ _ e hi rfl q2 rfl hσ q1
        exact ⟨l2, w2, rfl, b1, bl, by rw [upd_ne nl]; exact b2, b3.mono mo, b4⟩
      | odk _ _ =>
        obtain ⟨l2, w2, e2, b1, bl, b2, b3, b4⟩ := old
        subst e2
        have nl : l2 ≠ a := fun z => by subst z; exact s.ap i j _ _ _ e hi rfl q2 rfl hσ q1
        exact ⟨l2, w2, rfl, b1, bl, by rw [upd_ne nl]; exact b2, b3.mono mo, b4⟩
      | slf _ _ _ _ _ =>
        obtain ⟨l2, w2, e2, b1, bl, b2, b3, b4⟩ := old
        subst e2
        have nl : l2 ≠ a := fun z => by subst z; exact s.ap i j _ _ _ e hi rfl q2 rfl hσ q1
        exact ⟨l2, w2, rfl, b1, bl, by rw [upd_ne nl]; exact b2, b3.mono mo, b4⟩
      | pen => exact old
  refine h σ _ H n s' sa' (pe.freeze ne h2) l (fun C dx fs Hd' H' g hc _ => absurd hc (hx C fs)) Q fun v d Hd' H' g pe' f r => ?_
  have at_ : Hd' a = some (.lst vs) := g.d _ _ upd_same
  have low : Same Hd (del Hd' a) := fun b u e => by
    have nb := ne_of_none e h2
    rw [del_ne nb]; exact g.d _ _ (mo _ _ e)
  have G : Grow c.p.a Hd H (del Hd' a) H' := ⟨low, g.h, fun b u e => by
    by_cases z : b = a
    · subst z; rw [del_same] at e; cases e
    · rw [del_ne z] at e; exact g.s _ _ e, fun b n0 z => by
    by_cases y : b = a
    · subst y; exact del_same
    · rw [del_ne y]; exact g.f b n0 (by rw [upd_ne y]; exact z), g.m⟩
  refine q v d _ H' G ?_ f.2 (rep_del at_ f.1 r)
  cases hp : c.p with
  | none => exact True.intro
  | some ac =>
    rw [hp] at pe pe'
    obtain ⟨p1, p2, ns, p3, p4⟩ := pe'
    obtain ⟨_, _, ns0, p5, _⟩ := pe
    have nc : ac.2 ≠ a := ne_of_none p5 h2
    refine ⟨p1, ?_, ns, by rw [del_ne nc]; exact p3, p4⟩
    by_cases y : ac.1 = a
    · rw [y]; exact del_same
    · rw [del_ne y]; exact p2
end
section
variable {K : PySem.W.Frag} {E : XK}
/-- slot j = e, where e reads the local list at slot i: the answer holds no list, or the list is data from here on -/
def WS.asgLend (j i : Nat) (e : WE K E) : WS K E := ⟨(WS.asg j (WM.up e)).t, e.m, fun χ Γ W => match Γ[i]? with
  | some (.own ds) => (e.w noX (Γ.set i (.dat (.lst ds))) fun d => noLst d = true ∧ W.N (Γ.set j (.dat d))) ∨ e.w χ (Γ.set i (.dat (.lst ds))) fun d => W.N ((Γ.set i (.dat (.lst ds))).set j (.dat d))
  | _ => e.w χ Γ fun d => W.N (Γ.set j (.dat d)), fun {p χ Γ W} h => by
  split at h
  · rename_i ds hi
    rcases h with h | h
    · intro Hb Hd0 H0 σ Hd H n o l x En k1 k2 k3 k4
      have lent : Ev ⟨K, p, E, noX⟩ e.t Γ e.m fun d => W.N (Γ.set j (.dat d)) := ev_lend hi (e.ok (p := p) h)
      exact lent σ Hd H n o.sr o.g.s o.pe l (fun _ _ _ _ _ _ z => z.elim) _ fun v d Hd1 H1 g1 pe1 f r => k1 _ _ _ _ f ((o.grow g1 pe1).set r)
    · have q : (WS.frz i (WS.asg j (WM.up e))).w χ Γ W := by
        show FrzAt Γ i fun G => (WS.asg j (WM.up e)).w χ G W
        unfold FrzAt
        rw [hi]
        exact h
      exact (WS.frz i (WS.asg j (WM.up e))).ok q
  · exact (WS.asg j (WM.up e)).ok h⟩
def LendAt (Γ : List Sk) (i : Nat) (own : List D → Prop) (els : Prop) : Prop := match Γ[i]? with | some (.own ds) => own ds | _ => els
theorem lendAt_o {Γ : List Sk} {ds : List D} {own : List D → Prop} {els : Prop} : LendAt (.own ds :: Γ) 0 own els = own ds := rfl
theorem lendAt_d {Γ : List Sk} {d : D} {own : List D → Prop} {els : Prop} : LendAt (.dat d :: Γ) 0 own els = els := rfl
theorem lendAt_s {Γ : List Sk} {s : Sk} {i : Nat} {own : List D → Prop} {els : Prop} : LendAt (s :: Γ) (i + 1) own els = LendAt Γ i own els := rfl
theorem w_asgLend {j i : Nat} {e : WE K E} {χ : Xq} {Γ : List Sk} {W : Wh} : (WS.asgLend j i e).w χ Γ W = LendAt Γ i (fun ds => (e.w noX (Γ.set i (.dat (.lst ds))) fun d => noLst d = true ∧ W.N (Γ.set j (.dat d))) ∨ e.w χ (Γ.set i (.dat (.lst ds))) fun d => W.N ((Γ.set i (.dat (.lst ds))).set j (.dat d))) (e.w χ Γ fun d => W.N (Γ.set j (.dat d))) := by
  unfold LendAt
  show (match Γ[i]? with | some (.own ds) => _ | _ => _) = _
  cases h : Γ[i]? with
  | none => rfl
  | some k => cases k <;> rfl
end
section
variable {P : Program} {w : World} {K : PySem.W.Frag} {mg : Str → Option Value} {base : Heap} {x qual : Str} {k : Nat} {ps N : List Str} {st : Stmt} {pre : List D → Prop} {post : List D → D → Prop} {f : Addr} {fd : FuncData}
/-- a method that is pure, by its term -/
theorem fn_W (T : WS K L2.E0) (F : FunV K x qual st f fd) (S : FnScope N ps (defScope st)) (hl : ∀ ds, pre ds → ds.length = ps.length)
    (hb : ∀ (f : Addr) (cdv : Value) (A : Around) (outer : List Env) (s : Shared) (H : Hp) (E : XK), Room k (A.deeper (envOfC qual (defScope st) s.heap.objs.size f cdv)) → NoG (A.deeper (envOfC qual (defScope st) s.heap.objs.size f cdv)) →
      ∃ t, PSs (cxOf CX0 P w K mg base N qual (defScope st) f cdv A outer s H E).nox (defBody st) t ∧ t = T.t) (hm : T.m = 0) (hw : ∀ ds, pre ds → T.w noX (G0 N ds) (retW (post ds))) : FnG P w K mg base CX0 (k + 1) f fd ps (SpP K pre post) :=
  fn_P F S hl fun cdv A outer s H E hr ng ds hp => ⟨T.t, (hb f cdv A outer s H E hr ng).elim fun t h => h.2 ▸ h.1, fun p => (T.ok (hw ds hp)).more (by omega)⟩
theorem w_atS {E : XK} (U : WS K E) {χ χ' : Xq} {Γ Γ' : List Sk} {W W' : Wh} (h : U.w χ Γ W) (eχ : χ = χ') (eΓ : Γ = Γ') (eW : W = W') : U.w χ' Γ' W' := eχ ▸ eΓ ▸ eW ▸ h
end
end DL
set_option maxRecDepth 100000
set_option maxHeartbeats 4000000
/-! DLm: errors of two fields. -/
namespace DL
open PySem L2 PyProof.Rows
/-- class C(Error): def __init__(self, f, g): self.f = f; self.g = g -/
theorem init2_ok {K : PySem.W.Frag} {f g : Str} {vs : List V} {H : Hp} {Q : VK} {E : XK} (h : SpI K [f, g] vs H Q E) : tSeq (tOst K f (tVar 0) (tVar 1)) (tOst K g (tVar 0) (tVar 2)) { nx := fun _ H' => Q .non H', rt := Q } (L2.start ["self", "x", "y"] vs) H := by
  obtain ⟨a, C, ws, rfl, hl, T, no, ha, q⟩ := h
  match ws, hl with
  | [y, z], _ =>
    refine ⟨_, rfl, _, rfl, a, C, rfl, T, no f (by simp), .inl ⟨ha, fun dx h1 h2 => ?_⟩⟩
    refine ⟨_, rfl, _, rfl, a, C, rfl, T, no g (by simp), .inr ⟨dx, [(f, y)], upd_same, by rw [upd_ne h2]; exact upd_same, (by show 1 ≤ 900; decide), ?_⟩⟩
    refine q dx _ h1 h2 (by rw [upd_ne h2.symm]; exact upd_same) upd_same fun b n1 n2 => ?_
    rw [upd_ne n2, upd_ne n1, upd_ne n2]
theorem init2_fn {P : Program} {w : World} {K : PySem.W.Frag} {mg : Str → Option Value} {base : Heap} {qual f g : Str} {st : Stmt} {fI : Addr} {fd : FuncData} {N ps : List Str} (F : Fun K "__init__" qual st fI fd) (S : FnScope N ps (defScope st)) (hN : N.length = 3) (hp : ps.length = 3)
    (hb : ∀ (cdv : Value) (A : Around) (outer : List Env) (s : Shared) (H : Hp) (E : XK), PSs (cxOf CX0 P w K mg base N qual (defScope st) fI cdv A outer s H E).nox (defBody st) (tSeq (tOst K f (tVar 0) (tVar 1)) (tOst K g (tVar 0) (tVar 2)))) : FnOk P w K mg base CX0 1 fI fd ps (SpI K [f, g]) :=
  F.ok (k := 0) S (fun vs H Q E h => by obtain ⟨a, C, ws, rfl, hl, _⟩ := h; rw [List.length_cons, hl, hp]; rfl) fun cdv A outer s H vs Q E hr h => ⟨_, hb cdv A outer s H E, by
    have e := init2_ok h (E := E)
    obtain ⟨a, C, ws, rfl, hl, _⟩ := h
    have e2 : L2.start N (.ref a :: ws) = L2.start ["self", "x", "y"] (.ref a :: ws) := by
      unfold L2.start
      rw [hN]; rfl
    rw [e2]; exact e⟩
end DL
set_option maxRecDepth 100000
set_option maxHeartbeats 4000000
/-! DLq: a slot that holds a local list on one way and data on another. -/
namespace DL
open PySem L2 PySem.Spec PyProof.Rows
section
variable {K : PySem.W.Frag} {E : XK}
/-- a test of a list that may be local -/
def WE.borrowD (i : Nat) (a : WE K E) : WE K E := ⟨a.t, a.m, fun χ Γ φ => match Γ[i]? with | some (.own ds) => a.w noX (Γ.set i (.dat (.lst ds))) fun d => scalar d = true ∧ φ d | _ => a.w χ Γ φ, fun {p χ Γ φ} h => by
  split at h
  · rename_i ds e
    have q := ev_borrow (c := ⟨K, p, E, noX⟩) e (a.ok h) (fun d f => f.1) (fun _ _ z => z)
    exact fun σ Hd H n s sa pe l x Q k => q σ Hd H n s sa pe l (fun _ _ _ _ _ _ z _ => z.elim) Q fun v d Hd' H' g pe' f r => k v d Hd' H' g pe' f.2 r
  · exact a.ok h⟩
theorem w_borrowD {i : Nat} {a : WE K E} {χ : Xq} {Γ : List Sk} {φ : D → Prop} : (WE.borrowD i a).w χ Γ φ = LendAt Γ i (fun ds => a.w noX (Γ.set i (.dat (.lst ds))) fun d => scalar d = true ∧ φ d) (a.w χ Γ φ) := by
  unfold LendAt
  show (match Γ[i]? with | some (.own ds) => _ | _ => _) = _
  cases h : Γ[i]? with
  | none => rfl
  | some k => cases k <;> rfl
/-- x = list(a) if t else b, x being changed later -/
def WS.asgIteL (j : Nat) (t : WT K E) (a b : WE K E) : WS K E := ⟨(WS.asg j (WM.up (WE.ite t (WE.cb ON.list (WA.cons a WA.nil)) b))).t, t.m + (a.m + b.m), fun χ Γ W => t.w χ Γ fun k => (k = true → a.w χ Γ fun d => ∃ ds, d.its = some ds ∧ W.N (Γ.set j (.own ds))) ∧ (k = false → b.w χ Γ fun d => W.N (Γ.set j (.dat d))), fun {p χ Γ W} h Hb Hd0 H0 σ Hd H n o l x En k1 k2 k3 k4 => by
  refine t.ok h σ Hd H n o.sr o.g.s o.pe (by omega) (x.grow o.g) _ fun k Hd1 H1 g1 pe1 f => ?_
  have o1 := o.grow g1 pe1
  cases k with
  | true =>
    refine a.ok (f.1 rfl) σ Hd1 H1 _ o1.sr o1.g.s o1.pe (by omega) (x.grow o1.g) _ fun v d Hd2 H2 g2 pe2 ⟨ds, e, w⟩ r => ?_
    have o2 := o1.grow g2 pe2
    have fin : ∀ (ys : List V) (q : Addr), Reps K Hd2 ys ds → H2 q = none → En.nx (σ.set j (some (.ref q))) (upd H2 q (.lst ys)) := fun ys q r hq => k1 _ _ _ _ w ((o2.newOwn (i := j) hq r).more (by omega))
    cases r with
    | tup h1 r => cases e; exact ⟨_, _, rfl, .inr (same_sqt o2.g.s h1), fun q hq => fin _ q r hq⟩
    | lst h1 r => cases e; exact ⟨_, _, rfl, .inl (SqL.of (o2.g.s _ _ h1)), fun q hq => fin _ q r hq⟩
    | _ => cases e
  | false =>
    refine b.ok (f.2 rfl) σ Hd1 H1 _ o1.sr o1.g.s o1.pe (by omega) (x.grow o1.g) _ fun v d Hd2 H2 g2 pe2 w r => ?_
    exact k1 _ _ _ _ w (((o1.grow g2 pe2).set r).more (by omega))⟩
theorem w_asgIteL {j : Nat} {t : WT K E} {a b : WE K E} {χ : Xq} {Γ : List Sk} {W : Wh} : (WS.asgIteL j t a b).w χ Γ W = t.w χ Γ fun k => (k = true → a.w χ Γ fun d => ∃ ds, d.its = some ds ∧ W.N (Γ.set j (.own ds))) ∧ (k = false → b.w χ Γ fun d => W.N (Γ.set j (.dat d))) := rfl
end
end DL
set_option maxRecDepth 100000
set_option maxHeartbeats 4000000
/-! DLz: the facts of classes at a law's start, handed on (the addresses stay as they are). -/
namespace DL
open PySem L2 PyProof.Rows
section
variable {K : PySem.W.Frag} {h : Heap} {mg : Str → Option Value} {x y : Str} {st : Stmt} {ps : List Str} {goal : Prop}
theorem own_then {qual : Str} {C fI : Addr} {ns : List Str} {nm q : Str} {N : Addr} {bs bm : List Value} {sn : List Str} {sub : List Value} {ab : Bool} {col : Option Bool} {dd : Option Addr} {m0 m1 m2 m3 m5 : Option Value}
    {oc : Value} {od an : Option Addr} {osl : Array (Option Value)} {kV doc pm cdv ct : Value} (X : K.In h) (G : h.Ns mainGlobals mg) (aC : PySem.W.nsIn K mainGlobals x = some (some (.ref C)))
    (xL : K.lookup C = some (excClassObj nm q C N bs bm true sn sub ab col dd m0 m1 m2 m3 m5 "ValueError.__new__")) (ve : PySem.HandSPX.refsVE bm = true)
    (sa : PySem.W.findIn K (.ref C) "__setattr__" = some (some (.builtin "object.__setattr__"))) (ga : PySem.W.findIn K (.ref C) "__getattribute__" = some (some (.builtin "BaseException.__getattribute__"))) (gg : PySem.W.findIn K (.ref C) "__getattr__" = some none)
    (no : ∀ f ∈ ns, PySem.W.findIn K (.ref C) f = some none) (a1 : PySem.W.findIn K (.ref C) "__init__" = some (some (.ref fI))) (t1 : PySem.W.typeIn K (.ref fI) = some (.type "function"))
    (l : K.lookup fI = some ⟨oc, od, .func (PySem.W.fnOf "__init__" qual (defArgs st) (defBody st) (defScope st) .none kV doc pm an cdv ct), osl⟩) (c : PySem.W.codeIn K cdv qual = true) (k : PySem.W.keepIn K (.ref fI) = true)
    (kC : PySem.W.keepIn K (.ref C) = true) (eC : PySem.W.subIn K (.ref C) (.type "BaseException") = some true) (tC : PySem.W.typeIn K (.ref C) = some (.type "type")) (hC : PySem.W.hasDictIn K C = true) (iC : PySem.W.isClsIn K C = true) (sC : PySem.W.subIn K (.ref C) (.ref C) = some true)
    (b : ∀ (kV doc pm : Value) (an : Option Addr) (cdv ct : Value) (us : List Value), us.length = ps.length → bindArgs (PySem.W.fnOf "__init__" qual (defArgs st) (defBody st) (defScope st) .none kV doc pm an cdv ct) ⟨us, []⟩ = pure (ps.zip us))
    (r : OwnC K mg x C fI ns → (∃ fd, Fun K "__init__" qual st fI fd ∧ Binds K fd ps []) → goal) : goal :=
  r ⟨⟨⟨nm, q, N, bs, bm, sn, sub, ab, col, dd, m0, m1, m2, m3, m5, xL, ve⟩, sa, eC, tC, kC⟩, ⟨ga, gg, eC, hC⟩, a1, t1, no, PySem.W.mg_of X G aC, exm_self eC iC tC sC⟩ ⟨_, fun_mk l c k, .all (b kV doc pm an cdv ct)⟩
theorem exm_then {A B i j : Addr} {ns ms : List Str} (p : OwnC K mg x A i ns) (q : OwnC K mg y B j ms) (s : PySem.W.subIn K (.ref A) (.ref B) = some false) (r : PySem.W.exmOne K (.ref A) (.ref B) = some false → goal) : goal :=
  r (PySem.W.exm_ref q.ox.exC q.xf.hdC q.ox.tyC s)
def strKeysB (es : Array DictEntry) : Bool := es.toList.all fun e => match e.key with | .str _ _ => true | _ => false
theorem strKeys_of {es : Array DictEntry} (e : strKeysB es = true) : StrKeys es := fun d hd => by
  have q := List.all_eq_true.mp e d (Array.mem_toList_iff.mpr hd)
  cases k : d.key with
  | str n t => exact ⟨n, t, rfl⟩
  | _ => rw [k] at q; cases q
theorem obj_then {stE : Stmt} {psE : List Str} {qual qualE : Str} {C fI fE : Addr} {ns : List Str} {nm q : Str} {N : Addr} {bs : List Value} {hdct : Bool} {sn : List Str} {sub : List Value} {ab : Bool} {col : Option Bool} {dd : Option Addr} {m0 m1 m2 m3 m5 : Option Value} {newId : String}
    {es : Array DictEntry} {ep : Nat} {on : Obj} {oc : Value} {od an : Option Addr} {osl : Array (Option Value)} {kV doc pm cdv ct : Value} {oc' : Option Addr} {osl' : Array (Option Value)} {an' : Option Addr} {kV' doc' pm' cdv' ct' : Value} (X : K.In h) (G : h.Ns mainGlobals mg) (aC : PySem.W.nsIn K mainGlobals x = some (some (.ref C)))
    (xL : K.lookup C = some (excClassObj nm q C N bs [.type "object"] hdct sn sub ab col dd m0 m1 m2 m3 m5 newId)) (lN : K.lookup N = some on) (dN : on.data = .dict es ep) (kN : strKeysB es = true)
    (pg : PySem.W.plainGet K C Str.empty = true) (hd : PySem.W.hasDictIn K C = true) (po : PySem.W.plainOver K C = true) (sa : PySem.W.findIn K (.ref C) "__setattr__" = some (some (.builtin "object.__setattr__"))) (mk : PySem.W.makesIn K C = true) (kc : PySem.W.keepIn K (.ref C) = true)
    (no : ∀ f ∈ ns, PySem.W.findIn K (.ref C) f = some none) (a1 : PySem.W.findIn K (.ref C) "__init__" = some (some (.ref fI))) (i1 : PySem.W.isFn K (.ref fI) = true)
    (l1 : K.lookup fI = some ⟨oc, od, .func (PySem.W.fnOf "__init__" qual (defArgs st) (defBody st) (defScope st) .none kV doc pm an cdv ct), osl⟩) (c1 : PySem.W.codeIn K cdv qual = true) (k1 : PySem.W.keepIn K (.ref fI) = true)
    (a2 : PySem.W.findIn K (.ref C) "__eq__" = some (some (.ref fE))) (i2 : PySem.W.isFn K (.ref fE) = true)
    (l2 : K.lookup fE = some ⟨.type "function", oc', .func (PySem.W.fnOf "__eq__" qualE (defArgs stE) (defBody stE) (defScope stE) .none kV' doc' pm' an' cdv' ct'), osl'⟩) (c2 : PySem.W.codeIn K cdv' qualE = true) (k2 : PySem.W.keepIn K (.ref fE) = true)
    (it : PySem.W.subIn K (.type "int") (.ref C) = some false) (tt : PySem.W.subIn K (.type "tuple") (.ref C) = some false) (fq : nsFind es "__eq__" = some (.ref fE)) (fn : nsFind es "__ne__" = none)
    (ha : PySem.W.findIn K (.ref C) "__class__" = some (some (.builtin "object.__class__"))) (hn : PySem.W.specialIn K (.builtin "object.__class__") "__get__" = some (some (.builtin "getset_descriptor.__get__"))) (htk : PySem.W.takesIn K (.builtin "object.__class__") = some true) (hm : PySem.W.mroIn K C (.type "object") = some true)
    (kI : PySem.W.kitOne K (.type "int") (.ref C) = some false) (kT : PySem.W.kitOne K (.type "tuple") (.ref C) = some false)
    (b1 : ∀ (kV doc pm : Value) (an : Option Addr) (cdv ct : Value) (us : List Value), us.length = ps.length → bindArgs (PySem.W.fnOf "__init__" qual (defArgs st) (defBody st) (defScope st) .none kV doc pm an cdv ct) ⟨us, []⟩ = pure (ps.zip us))
    (b2 : ∀ (kV doc pm : Value) (an : Option Addr) (cdv ct : Value) (us : List Value), us.length = psE.length → bindArgs (PySem.W.fnOf "__eq__" qualE (defArgs stE) (defBody stE) (defScope stE) .none kV doc pm an cdv ct) ⟨us, []⟩ = pure (psE.zip us))
    (r : OwnO K mg x C fI fE ns → (∃ fd, FunV K "__init__" qual st fI fd ∧ Binds K fd ps []) → (∃ fd, FunV K "__eq__" qualE stE fE fd ∧ Binds K fd psE []) → goal) : goal := by
  have cl : Cls K C := ⟨pg, hd, po, sa⟩
  exact r ⟨cl, no, ⟨mk, a1, i1, kc⟩, PySem.W.mg_of X G aC, ⟨a2, i2, it, tt⟩, ⟨⟨nm, q, N, bs, hdct, sn, sub, ab, col, dd, m0, m1, m2, m3, m5, newId, es, ep, on, xL, lN, dN, strKeys_of kN, fq, fn⟩, ⟨_, l2, rfl⟩⟩, ⟨fun H a dx fs e => .ins e cl ha hn htk hm, kI, kT⟩⟩
    ⟨_, ⟨⟨oc, od, .none, kV, doc, pm, an, cdv, ct, osl, rfl, l1, c1⟩, k1⟩, .all (b1 kV doc pm an cdv ct)⟩ ⟨_, ⟨⟨.type "function", oc', .none, kV', doc', pm', an', cdv', ct', osl', rfl, l2, c2⟩, k2⟩, .all (b2 kV' doc' pm' an' cdv' ct')⟩
end
end DL
set_option maxRecDepth 100000
set_option maxHeartbeats 4000000
/-! DLv: a list that other data points to while it is changed; ghost steps. -/
namespace DL
open PySem L2 PySem.Spec PyProof.Rows
mutual
/-- what .ptr a points to is told -/
def D.sub (a : Addr) (es : List D) : D → D
  | .ptr b => if b = a then .lst es else .ptr b
  | .lst ds => .lst (D.subs a es ds)
  | .tup ds => .tup (D.subs a es ds)
  | .dct ks ds => .dct ks (D.subs a es ds)
  | .obj C ns ds => .obj C ns (D.subs a es ds)
  | .exc x dx ns ds => .exc x dx ns (D.subs a es ds)
  | .err C ns ds => .err C ns (D.subs a es ds)
  | d => d
def D.subs (a : Addr) (es : List D) : List D → List D
  | [] => []
  | d :: ds => D.sub a es d :: D.subs a es ds
end
section
variable {K : PySem.W.Frag} {Hd : Hp} {a : Addr} {ws : List V} {es : List D}
mutual
theorem Rep.sub (hl : Hd a = some (.lst ws)) (rs : Reps K Hd ws es) : ∀ {v : V} {d : D}, Rep K Hd v d → Rep K Hd v (d.sub a es)
  | _, _, .non => .non
  | _, _, .bl b => .bl b
  | _, _, .int i => .int i
  | _, _, .str x => .str x
  | _, _, .lst h r => .lst h (Reps.sub hl rs r)
  | _, _, .tup h r => .tup h (Reps.sub hl rs r)
  | _, _, .dct h l r => .dct h l (Reps.sub hl rs r)
  | _, _, .obj h l r => .obj h l (Reps.sub hl rs r)
  | _, _, .exc h l r => .exc h l (Reps.sub hl rs r)
  | _, _, .err h1 h2 l r => .err h1 h2 l (Reps.sub hl rs r)
  | _, _, .err0 h => .err0 h
  | _, _, .ptr b => by
    unfold D.sub
    by_cases e : b = a
    · rw [if_pos e]; subst e; exact .lst hl rs
    · rw [if_neg e]; exact .ptr b
theorem Reps.sub (hl : Hd a = some (.lst ws)) (rs : Reps K Hd ws es) : ∀ {vs : List V} {ds : List D}, Reps K Hd vs ds → Reps K Hd vs (D.subs a es ds)
  | _, _, .nil => .nil
  | _, _, .cons h r => .cons (Rep.sub hl rs h) (Reps.sub hl rs r)
end
end
def Sk.sub (a : Addr) (es : List D) : Sk → Sk
  | .dat d => .dat (d.sub a es)
  | k => k
theorem Sk.sub_own {a : Addr} {es : List D} {k : Sk} : (k.sub a es).isOwn = k.isOwn := by cases k <;> rfl
theorem Sk.sub_id {a : Addr} {es : List D} {k : Sk} (h : k.isOwn = true) : k.sub a es = k := by cases k <;> first | rfl | cases h
section
variable {c : Ct} {Hb Hd0 H0 : Hp} {σ σ' : L2.St} {Γ Γ' : List Sk} {Hd H Hd' H' : Hp} {n n' m : Nat} {i : Nat} {t : TS} {W : Wh}
theorem Ok.sub (o : Ok c Hb Hd0 H0 σ Γ Hd H n) {a : Addr} {ws : List V} {es : List D} (hl : Hd a = some (.lst ws)) (rs : Reps c.K Hd ws es) : Ok c Hb Hd0 H0 σ (Γ.map (Sk.sub a es)) Hd H n := by
  have back : ∀ {j : Nat} {k : Sk}, (Γ.map (Sk.sub a es))[j]? = some k → ∃ k', Γ[j]? = some k' ∧ k = k'.sub a es := fun {j k} q => by
    rw [List.getElem?_map] at q
    cases z : Γ[j]? with
    | none => rw [z] at q; cases q
    | some k' => rw [z] at q; cases q; exact ⟨k', rfl, rfl⟩
  refine ⟨o.b, o.s0, o.g, ⟨by rw [List.length_map]; exact o.sr.len, fun j o' k h1 h2 => ?_, fun j j' k1 k2 l nj h1 o1 h2 o2 e1 e2 => ?_⟩, o.pe, fun j k l h1 h2 h3 => ?_⟩
  · obtain ⟨k', h3, rfl⟩ := back h2
    have q := o.sr.ok j _ _ h1 h3
    cases k' with
    | dat d => obtain ⟨v, e, r⟩ := q; exact ⟨v, e, r.sub hl rs⟩
    | _ => exact q
  · obtain ⟨k1', g1, rfl⟩ := back h1
    obtain ⟨k2', g2, rfl⟩ := back h2
    exact o.sr.ap j j' k1' k2' l nj g1 (Sk.sub_own.symm.trans o1) g2 (Sk.sub_own.symm.trans o2) e1 e2
  · obtain ⟨k', g1, rfl⟩ := back h1
    exact o.fr j k' l g1 (Sk.sub_own.symm.trans h2) h3
/-- a slot that owns a list is told otherwise -/
theorem Ok.reown (o : Ok c Hb Hd0 H0 σ Γ Hd H n) {k k' : Sk} (hi : Γ[i]? = some k) (ho : k.isOwn = true) (h : ∀ v, σ[i]? = some v → SkAt c.K c.p Hd H v k → SkAt c.K c.p Hd H v k') : Ok c Hb Hd0 H0 σ (Γ.set i k') Hd H n := by
  have hl : i < Γ.length := (List.getElem?_eq_some_iff.mp hi).1
  have back : ∀ {j : Nat} {k2 : Sk}, (Γ.set i k')[j]? = some k2 → k2.isOwn = true → ∃ k3, Γ[j]? = some k3 ∧ k3.isOwn = true := fun {j k2} q oq => by
    by_cases e : i = j
    · subst e; exact ⟨_, hi, ho⟩
    · rw [List.getElem?_set_ne e] at q; exact ⟨_, q, oq⟩
  refine ⟨o.b, o.s0, o.g, ⟨by rw [List.length_set]; exact o.sr.len, fun j o' k2 h1 h2 => ?_, fun j j' k1 k2 l nj h1 o1 h2 o2 e1 e2 => ?_⟩, o.pe, fun j k2 l h1 h2 h3 => ?_⟩
  · by_cases e : i = j
    · subst e
      rw [List.getElem?_set_self hl] at h2; cases h2
      exact h o' h1 (o.sr.ok i _ _ h1 hi)
    · rw [List.getElem?_set_ne e] at h2
      exact o.sr.ok j _ _ h1 h2
  · obtain ⟨k1', a1, b1⟩ := back h1 o1
    obtain ⟨k2', a2, b2⟩ := back h2 o2
    exact o.sr.ap j j' k1' k2' l nj a1 b1 a2 b2 e1 e2
  · obtain ⟨k3, a1, b1⟩ := back h1 h2
    exact o.fr j k3 l a1 b1 h3
theorem Ok.name (o : Ok c Hb Hd0 H0 σ Γ Hd H n) {ds : List D} {l : Addr} (hi : Γ[i]? = some (.own ds)) (hs : σ[i]? = some (some (.ref l))) : Ok c Hb Hd0 H0 σ (Γ.set i (.ow l ds)) Hd H n :=
  o.reown hi rfl fun v e ⟨l', vs, e1, h1, h2, h3, h4⟩ => by
    rw [hs] at e; cases e; cases e1
    exact ⟨l, vs, rfl, h1, rfl, h2, h3, h4⟩
theorem Ok.unname (o : Ok c Hb Hd0 H0 σ Γ Hd H n) {ds : List D} {a : Addr} (hi : Γ[i]? = some (.ow a ds)) : Ok c Hb Hd0 H0 σ (Γ.set i (.own ds)) Hd H n ∧ σ[i]? = some (some (.ref a)) := by
  refine ⟨o.reown hi rfl fun v e ⟨l', vs, e1, h1, _, h2, h3, h4⟩ => ⟨l', vs, e1, h1, h2, h3, h4⟩, ?_⟩
  obtain ⟨v, hv, l, vs, e, _, e2, _⟩ := o.sr.get hi
  subst e; subst e2; exact hv
theorem wp_name {ds : List D} (i : Nat) (hi : Γ[i]? = some (.own ds)) (h : ∀ a, Wp c t (Γ.set i (.ow a ds)) m W) : Wp c t Γ m W := fun Hb Hd0 H0 σ Hd H n o l x E k1 k2 k3 k4 => by
  obtain ⟨v, hv, a, vs, e, _⟩ := o.sr.get hi
  subst e
  exact h a Hb Hd0 H0 σ Hd H n (o.name hi hv) l x E k1 k2 k3 k4
theorem wp_tell {a : Addr} {ds : List D} (i : Nat) (hi : Γ[i]? = some (.ow a ds)) (h : Wp c t ((Γ.set i (.dat (.lst ds))).map (Sk.sub a ds)) m W) : Wp c t Γ m W := fun Hb Hd0 H0 σ Hd H n o l x E k1 k2 k3 k4 => by
  obtain ⟨o1, hs⟩ := o.unname hi
  have hl : i < Γ.length := (List.getElem?_eq_some_iff.mp hi).1
  obtain ⟨l2, vs, e, h1, h2, h3, h4, o2⟩ := o1.freeze (List.getElem?_set_self hl)
  rw [hs] at e; cases e
  rw [List.set_set] at o2
  have mo : Same Hd (upd Hd a (.lst vs)) := fun b u e => by rw [upd_ne (ne_of_none e h2)]; exact e
  exact h Hb Hd0 H0 σ _ H n (o2.sub upd_same (h3.mono mo)) l x E k1 k2 k3 k4
theorem ev_ptr {φ : D → Prop} {a : Addr} {ds : List D} (h : Γ[i]? = some (.ow a ds)) (f : φ (.ptr a)) : Ev c (tVar i) Γ 0 φ := fun σ Hd H n s sa pe l x Q q => by
  obtain ⟨v, hv, l, vs, e, _, e2, _⟩ := s.get h
  subst e; subst e2
  exact ⟨_, hv, q _ (.ptr l) Hd H (.refl sa) pe f (.ptr l)⟩
/-- xs.append(e), xs a list that other data points to -/
theorem wp_appendO {te : TE} {a : Addr} {ds : List D} (hi : Γ[i]? = some (.ow a ds)) (h : EvM c te Γ m (fun d G => G = Γ ∧ ds.length < 1000000 ∧ W.N (Γ.set i (.ow a (ds ++ [d]))))) : Wp c (tDrop (tBM c.K "list" rAppend (tVar i) (tCons te tNil))) Γ m W := fun Hb Hd0 H0 σ Hd H n o l x E k1 k2 k3 k4 => by
  obtain ⟨o0, hs, b, vs, e, h1, e2, _⟩ := o.sr.get hi
  subst e; subst e2
  refine ⟨_, hs, .inl ⟨rfl, _, SqL.of h1⟩, h Hb Hd0 H0 σ Hd H n o l x _ fun v d G Hd' H' f o' r => ?_⟩
  obtain ⟨rfl, g2, g3⟩ := f
  obtain ⟨o2, hs2, b2, ws, e, h2, e3, h3, h4, _⟩ := o'.sr.get hi
  rw [hs] at hs2; cases hs2; cases e
  have hl : i < G.length := (List.getElem?_eq_some_iff.mp hi).1
  obtain ⟨p1, _⟩ := o'.unname hi
  have p2 := p1.writeOwn (List.getElem?_set_self hl) hs (h4.append (.cons r .nil))
  rw [List.set_set] at p2
  have p3 := p2.name (List.getElem?_set_self hl) hs
  rw [List.set_set] at p3
  exact ⟨_, ws, v, rfl, rfl, h2, by rw [h4.length, sizeLine_eq]; omega, k1 _ _ _ _ g3 p3⟩
end
/-! ### bundled -/
section
variable {K : PySem.W.Frag} {E : XK}
def WE.pvar (i : Nat) : WE K E := ⟨tVar i, 0, fun _ Γ φ => match Γ[i]? with | some (.ow a _) => φ (.ptr a) | _ => False, fun {p χ Γ φ} h => by
  split at h
  · rename_i a ds e; exact ev_ptr e h
  · exact h.elim⟩
/-- the list at i gets a name -/
def WS.name (i : Nat) (s : WS K E) : WS K E := ⟨s.t, s.m, fun χ Γ W => match Γ[i]? with | some (.own ds) => ∀ a, s.w χ (Γ.set i (.ow a ds)) W | _ => False, fun {p χ Γ W} h => by
  split at h
  · rename_i ds e; exact wp_name i e fun a => s.ok (h a)
  · exact h.elim⟩
/-- the list at i is told wherever it is pointed to -/
def WS.tell (i : Nat) (s : WS K E) : WS K E := ⟨s.t, s.m, fun χ Γ W => match Γ[i]? with | some (.ow a ds) => s.w χ ((Γ.set i (.dat (.lst ds))).map (Sk.sub a ds)) W | _ => False, fun {p χ Γ W} h => by
  split at h
  · rename_i a ds e; exact wp_tell i e (s.ok h)
  · exact h.elim⟩
def WS.appendO (i : Nat) (e : WE K E) : WS K E := ⟨tDrop (tBM K "list" rAppend (tVar i) (tCons e.t tNil)), e.m, fun χ Γ W => match Γ[i]? with | some (.ow a ds) => e.w χ Γ fun d => ds.length < 1000000 ∧ W.N (Γ.set i (.ow a (ds ++ [d]))) | _ => False, fun {p χ Γ W} h => by
  split at h
  · rename_i a ds z; exact wp_appendO z (((e.ok h).toM).imp fun d G ⟨g1, g2⟩ => ⟨g1, g2⟩)
  · exact h.elim⟩
end
end DL
set_option maxRecDepth 100000
set_option maxHeartbeats 4000000
/-! DLu: exceptions as values, bundled. -/
namespace DL
open PySem L2 PySem.Spec PyProof.Rows
section
variable {K : PySem.W.Frag} {E : XK}
/-- C(..) as a value -/
def WE.mkE (C : Addr) (ns : List Str) (a : WA K E) (T : OexC K C) (no : ∀ f ∈ ns, PySem.W.findIn K (.ref C) f = some none) : WE K E := ⟨tKeep (tMkO C (SpI K ns) [] a.t), a.m, fun χ Γ φ => a.w χ Γ fun ds => ds.length = ns.length ∧ ds.length ≤ 1000 ∧ φ (.err C ns.reverse ds.reverse), fun {p χ Γ φ} h σ Hd H n s sa pe l x Q q => by
  refine a.ok h σ Hd H n s sa pe l x _ fun vs ds Hd1 H1 g1 pe1 ⟨f1, f2, f3⟩ r => ⟨by rw [r.length]; exact f2, fun a' ha => ?_⟩
  refine ⟨a', C, vs, by rw [List.append_nil], by rw [r.length]; exact f1, T, no, upd_same, fun dx H2 h1 h2 e1 e2 e3 => ⟨rfl, dx, _, e1, e2, ?_, fun b hb => ?_⟩⟩
  · rw [upd_ne h2] at h1; exact h1
  · rw [upd_ne h2] at h1
    have eH : upd (del H2 a') dx (.xd (ns.zip vs).reverse) = upd H1 dx (.xd (ns.zip vs).reverse) := by
      funext b
      by_cases q : b = dx
      · subst q; rw [upd_same, upd_same]
      · rw [upd_ne q, upd_ne q]
        by_cases q2 : b = a'
        · subst q2; rw [del_same, ha]
        · rw [del_ne q2, e3 b q2 q, upd_ne q2]
    rw [eH] at hb ⊢
    have l1 : ns.length = vs.length := by rw [r.length, f1]
    have g2 : Grow (p.a) Hd1 H1 (upd Hd1 dx (.xd (ns.zip vs).reverse)) (upd H1 dx (.xd (ns.zip vs).reverse)) := Grow.new g1.s h1
    have g3 : Grow (p.a) _ _ (upd (upd Hd1 dx (.xd (ns.zip vs).reverse)) b (ExK (.ref C) (some dx) b)) (upd (upd H1 dx (.xd (ns.zip vs).reverse)) b (ExK (.ref C) (some dx) b)) := Grow.new (Grow.s g2) hb
    have nb : dx ≠ b := fun z => by subst z; rw [upd_same] at hb; cases hb
    refine q _ (.err C ns.reverse ds.reverse) _ _ ((g1.trans g2).trans g3) ?_ f3 ?_
    · have hd1 : Hd1 dx = none := Same.free g1.s h1
      exact (pe1.grow (Grow.new g1.s h1)).grow (Grow.new (Grow.s g2) hb)
    · refine .err (dx := dx) (xs := vs.reverse) upd_same ?_ (by rw [List.length_reverse, List.length_reverse]; exact l1) ((r.mono (g2.trans g3).d).reverse)
      rw [upd_ne nb, upd_same, zip_rev l1]⟩
/-- v.f, v a kept exception of the class C -/
def WE.fldE (C : Addr) (f : Str) (e : WE K E) : WE K E := ⟨tFldK C f e.t, e.m, fun χ Γ φ => e.w χ Γ fun x => ∃ ns ds y, x = .err C ns ds ∧ lookD ns ds f = some y ∧ φ y, fun {p χ Γ φ} h σ Hd H n s sa pe l x Q q =>
  e.ok h σ Hd H n s sa pe l x _ fun v d' Hd1 H1 g1 pe1 ⟨ns, ds, y, e1, e2, f1⟩ r => by
    subst e1
    cases r with
    | err h1 h2 h3 h4 =>
      obtain ⟨v, q1, q2⟩ := look_zip h4 e2
      exact ⟨_, _, _, v, rfl, g1.s _ _ h1, g1.s _ _ h2, q1, q v y Hd1 H1 g1 pe1 f1 q2⟩
    | err0 h1 => cases e2⟩
/-- isinstance(v, c), v a kept exception of any class -/
def rIsX (K : PySem.W.Frag) : List V → Hp → VK → Prop := fun xs H Q => ∃ D, ExcC K D ∧ rIsK K D xs H Q
theorem call_isX {X : Cx} : CallR X (.builtin "isinstance") (rIsX X.K) := fun pins s σ H xs us Q I r ⟨_, C, h⟩ => call_isK C pins s σ H xs us Q I r h
/-- c: the class as a value, u as the model's -/
def WE.isE (c : V) (u : Value) (hc : ClsV c u) (tc : TE) (ht : ∀ σ H Q, Q c H → tc σ H Q) (a : WE K E) : WE K E := ⟨tCB (rIsX K) (tCons a.t (tCons tc tNil)), a.m, fun χ Γ φ => a.w χ Γ fun d => ∃ C ns ds b, d = .err C ns ds ∧ ExcC K C ∧ PySem.W.kitOne K (.ref C) u = some b ∧ φ (.bl b), fun {p χ Γ φ} h σ Hd H n s sa pe l x Q q =>
  a.ok h σ Hd H n s sa pe l x _ fun v d Hd1 H1 g1 pe1 ⟨C, ns, ds, b, e, hC, hk, f⟩ r => by
    subst e
    refine ht _ _ _ ?_
    cases r with
    | err h1 h2 h3 h4 => exact ⟨C, hC, _, _, c, u, b, rfl, g1.s _ _ h1, fun dd e => by cases e; exact ⟨_, g1.s _ _ h2⟩, hc, hk, q _ _ Hd1 H1 g1 pe1 f (.bl _)⟩
    | err0 h1 => exact ⟨C, hC, _, _, c, u, b, rfl, g1.s _ _ h1, fun dd e => (nomatch e), hc, hk, q _ _ Hd1 H1 g1 pe1 f (.bl _)⟩⟩
end
/-- C(), an own exception class without an __init__ of its own -/
theorem pmk_none {X : Cx} {C : Addr} {bmB : List Value} {B newId initId : String} {x : Str} {p pos : Pos} (F : ExcBaseFacts B newId initId bmB) (q : PySem.W.excIn X.K C bmB newId = true) (gC : X.mg x = some (.ref C))
    (kC : PySem.W.keepIn X.K (.ref C) = true) (r : Raises X (.ref C)) (hg : Gl X x) (hdb : (x == ("__debug__" : Str)) = false := by decide) : PMk X (.Call (.Name x p) [] [] pos) (fun _ H Q => Q (.ref C) none H) := fun pins s σ H Q I h => by
  refine wpAny_Call_Name_kw (ld_glob I hg gC ?_ hdb)
  obtain ⟨bm, N, nm, qn, bs, hdct, sn, sub, ab, col, dd, k0, k1, k2, k3, k5, mN, hC, hN, hni, T⟩ := exc_obj I.kIn q
  exact PySem.W.callWith_K0 I.kIn kC (wpAny_call_exc_subT F T hC hN hni (fun h' e hm => mk_of I hm r h (I.hok.gone hm.new)) (Nat.zero_le _))
section
variable {K : PySem.W.Frag} {E : XK}
def WE.mkE0 (C : Addr) : WE K E := ⟨tKeep (fun _ H Q => Q (.ref C) none H), 0, fun χ Γ φ => φ (.err C [] []), fun {p χ Γ φ} h σ Hd H n s sa pe l x Q q a ha =>
  q _ (.err C [] []) _ _ (Grow.new sa ha) (pe.grow (Grow.new sa ha)) h (.err0 upd_same)⟩
end
section
variable {X : Cx} {x : Str} {C fI : Addr} {ns : List Str} {j k : Nat} {e : Expr} {es : List Expr} {ta : TA} {p pos : Pos}
theorem pe_mkE (O : OwnI X.prog X.w X.K X.mg X.base x C fI ns j) (hr : Room k X.A) (hj : j + 1 ≤ k) (hg : Gl X x) (ha : PA X (e :: es) ta)
    (hdb : (x == ("__debug__" : Str)) = false := by decide) (he : starEach (e :: es) X.env = (false, eval e X.env) :: starEach es X.env := by rfl) (hpl : (backTo pos (starEach es X.env)).any (·.1) = false := by rfl) :
    PE X (.Call (.Name x p) (e :: es) [] pos) (tKeep (tMkO C (SpI X.K ns) [] ta)) := by
  obtain ⟨fd, ps, F, hb⟩ := O.ex
  exact pe_keep (pmk_oex O.own.ox O.own.iC O.own.tI F (hr.mono hj) hb .nil pass0 hg O.own.m ha hdb he hpl)
end
section
variable {K : PySem.W.Frag} {E : XK} {χ : Xq} {Γ : List Sk} {φ : D → Prop} {W : Wh}
theorem w_mkE {C : Addr} {ns : List Str} {a : WA K E} {T : OexC K C} {no : ∀ f ∈ ns, PySem.W.findIn K (.ref C) f = some none} : (WE.mkE C ns a T no).w χ Γ φ = a.w χ Γ fun ds => ds.length = ns.length ∧ ds.length ≤ 1000 ∧ φ (.err C ns.reverse ds.reverse) := rfl
theorem w_mkE0 {C : Addr} : (WE.mkE0 C : WE K E).w χ Γ φ = φ (.err C [] []) := rfl
theorem w_fldE {C : Addr} {f : Str} {e : WE K E} : (WE.fldE C f e).w χ Γ φ = e.w χ Γ fun x => ∃ ns ds y, x = .err C ns ds ∧ lookD ns ds f = some y ∧ φ y := rfl
end
/-- v.n, v a kept exception of any own class -/
def tFldX (K : PySem.W.Frag) (n : Str) (te : TE) : TE := fun σ H Q => te σ H fun x H1 => ∃ C, XfC K C ∧ PySem.W.findIn K (.ref C) n = some none ∧ ∃ (a dd : Addr) (fs : List (Str × V)) (v : V), x = .ref a ∧ H1 a = some (ExK (.ref C) (some dd) a) ∧ H1 dd = some (.xd fs) ∧ fs.lookup n = some v ∧ Q v H1
theorem pe_fldX {X : Cx} {e : Expr} {te : TE} {n : Str} {pos : Pos} (he : PE X e te) (hb : attributeBase e n X.env (eval e X.env) = eval e X.env := by rfl) : PE X (.Attribute e n pos) (tFldX X.K n te) := by
  refine ⟨fun pins s σ H Q I h => attr_of hb (thn (he.run pins s σ H _ I h) fun u s1 hh => ?_)⟩
  obtain ⟨x, H1, I1, rx, C, T, hno, a, dd, fs, v, rfl, ha, hd, l, q⟩ := hh
  cases rx
  obtain ⟨oe, vs, g1, g2, g3⟩ := exK_at I1.hok ha
  have hx : ObjOk X.prog X.w H1 s1.heap dd (.xd fs) := I1.hok dd _ hd
  obtain ⟨mA, hns, hr⟩ := hx
  obtain ⟨od, ho, hl⟩ := lookIn_ns hns
  obtain ⟨u, hu, ru⟩ := RelO.some_of (v := v) (o := mA n) (by rw [← l]; exact hr n)
  have nc : PySem.W.notCls oe := by unfold PySem.W.notCls; rw [g3] <;> rfl
  exact HandSPX.exc_get I1.kIn (od := some od) ⟨g1, g2.1, nc, by rw [g2.2]; exact ho⟩ T.ga T.gg T.exC (PySem.W.findObj_own T.hdC hno rfl (by rw [hl, hu])) (handed_of ru) ⟨v, H1, I1.tok _, ru, q⟩
section
variable {K : PySem.W.Frag} {E : XK} {χ : Xq} {Γ : List Sk} {φ : D → Prop} {W : Wh}
def WE.fldX (f : Str) (e : WE K E) : WE K E := ⟨tFldX K f e.t, e.m, fun χ Γ φ => e.w χ Γ fun x => ∃ C ns ds y, x = .err C ns ds ∧ XfC K C ∧ PySem.W.findIn K (.ref C) f = some none ∧ lookD ns ds f = some y ∧ φ y, fun {p χ Γ φ} h σ Hd H n s sa pe l x Q q =>
  e.ok h σ Hd H n s sa pe l x _ fun v d' Hd1 H1 g1 pe1 ⟨C, ns, ds, y, e1, e2, e3, e4, f1⟩ r => by
    subst e1
    cases r with
    | err h1 h2 h3 h4 =>
      obtain ⟨v, q1, q2⟩ := look_zip h4 e4
      exact ⟨C, e2, e3, _, _, _, v, rfl, g1.s _ _ h1, g1.s _ _ h2, q1, q v y Hd1 H1 g1 pe1 f1 q2⟩
    | err0 h1 => cases e4⟩
theorem w_fldX {f : Str} {e : WE K E} : (WE.fldX f e).w χ Γ φ = e.w χ Γ fun x => ∃ C ns ds y, x = .err C ns ds ∧ XfC K C ∧ PySem.W.findIn K (.ref C) f = some none ∧ lookD ns ds f = some y ∧ φ y := rfl
end
/-- class C(Error): def __init__(self, f, g, h): self.f = f; self.g = g; self.h = h -/
theorem init3_ok {K : PySem.W.Frag} {f g u : Str} {vs : List V} {H : Hp} {Q : VK} {E : XK} (h : SpI K [f, g, u] vs H Q E) : tSeq (tOst K f (tVar 0) (tVar 1)) (tSeq (tOst K g (tVar 0) (tVar 2)) (tOst K u (tVar 0) (tVar 3))) { nx := fun _ H' => Q .non H', rt := Q } (L2.start ["self", "x", "y", "z"] vs) H := by
  obtain ⟨a, C, ws, rfl, hl, T, no, ha, q⟩ := h
  match ws, hl with
  | [y, z, x], _ =>
    refine ⟨_, rfl, _, rfl, a, C, rfl, T, no f (by simp), .inl ⟨ha, fun dx h1 h2 => ?_⟩⟩
    refine ⟨_, rfl, _, rfl, a, C, rfl, T, no g (by simp), .inr ⟨dx, [(f, y)], upd_same, by rw [upd_ne h2]; exact upd_same, (by show 1 ≤ 900; decide), ?_⟩⟩
    refine ⟨_, rfl, _, rfl, a, C, rfl, T, no u (by simp), .inr ⟨dx, [(g, z), (f, y)], by rw [upd_ne h2.symm]; exact upd_same, upd_same, (by show 2 ≤ 900; decide), ?_⟩⟩
    refine q dx _ h1 h2 (by rw [upd_ne h2.symm, upd_ne h2.symm]; exact upd_same) upd_same fun b n1 n2 => ?_
    rw [upd_ne n2, upd_ne n2, upd_ne n1, upd_ne n2]
theorem init3_fn {P : Program} {w : World} {K : PySem.W.Frag} {mg : Str → Option Value} {base : Heap} {qual f g u : Str} {st : Stmt} {fI : Addr} {fd : FuncData} {N ps : List Str} (F : Fun K "__init__" qual st fI fd) (S : FnScope N ps (defScope st)) (hN : N.length = 4) (hp : ps.length = 4)
    (hb : ∀ (cdv : Value) (A : Around) (outer : List Env) (s : Shared) (H : Hp) (E : XK), PSs (cxOf CX0 P w K mg base N qual (defScope st) fI cdv A outer s H E).nox (defBody st) (tSeq (tOst K f (tVar 0) (tVar 1)) (tSeq (tOst K g (tVar 0) (tVar 2)) (tOst K u (tVar 0) (tVar 3))))) : FnOk P w K mg base CX0 1 fI fd ps (SpI K [f, g, u]) :=
  F.ok (k := 0) S (fun vs H Q E h => by obtain ⟨a, C, ws, rfl, hl, _⟩ := h; rw [List.length_cons, hl, hp]; rfl) fun cdv A outer s H vs Q E hr h => ⟨_, hb cdv A outer s H E, by
    have e := init3_ok h (E := E)
    obtain ⟨a, C, ws, rfl, hl, _⟩ := h
    have e2 : L2.start N (.ref a :: ws) = L2.start ["self", "x", "y", "z"] (.ref a :: ws) := by
      unfold L2.start
      rw [hN]; rfl
    rw [e2]; exact e⟩
section
end
end DL
set_option maxRecDepth 100000
set_option maxHeartbeats 4000000
/-! DLy: error classes without __init__, isinstance of errors, try: raise .. except .. -/
namespace DL
open PySem L2 PySem.Spec PyProof.Rows
/-- an own class of errors without an __init__ of its own -/
structure OexN (K : PySem.W.Frag) (mg : Str → Option Value) (x : Str) (C : Addr) : Prop where
  q : PySem.W.excIn K C [.type "ValueError", .type "Exception", .type "BaseException", .type "object"] "ValueError.__new__" = true
  exC : PySem.W.subIn K (.ref C) (.type "BaseException") = some true
  tyC : PySem.W.typeIn K (.ref C) = some (.type "type")
  kC : PySem.W.keepIn K (.ref C) = true
  m : mg x = some (.ref C)
section
variable {X : Cx} {x : Str} {C : Addr} {p pos pos2 : Pos}
theorem pmk_oexN (O : OexN X.K X.mg x C) (hg : Gl X x) (hdb : (x == ("__debug__" : Str)) = false := by decide) : PMk X (.Call (.Name x p) [] [] pos) (fun _ H Q => Q (.ref C) none H) :=
  pmk_none PySem.F.excBase_ValueError O.q O.m O.kC (raises_own O.exC O.tyC) hg hdb
theorem pe_mkE0 (O : OexN X.K X.mg x C) (hg : Gl X x) (hdb : (x == ("__debug__" : Str)) = false := by decide) : PE X (.Call (.Name x p) [] [] pos) (tKeep (fun _ H Q => Q (.ref C) none H)) := pe_keep (pmk_oexN O hg hdb)
theorem ps_raiseN {W : WX} (O : OexN X.K X.mg x C) (hc : X.calm = true) (tk : Takes X W) (hg : Gl X x) (hdb : (x == ("__debug__" : Str)) = false := by decide) : PS X (.Raise (some (.Call (.Name x p) [] [] pos)) none pos2) (fun _ σ H => W (.ref C) none σ H) :=
  ps_raise hc tk (pmk_oexN O hg hdb)
theorem ps_raiseW {W : WX} {fI : Addr} {ns : List Str} {j k : Nat} {e : Expr} {es : List Expr} {ta : TA} (O : OwnI X.prog X.w X.K X.mg X.base x C fI ns j) (hr : Room k X.A) (hj : j + 1 ≤ k) (hc : X.calm = true) (tk : Takes X W) (hg : Gl X x) (ha : PA X (e :: es) ta)
    (hdb : (x == ("__debug__" : Str)) = false := by decide) (he : starEach (e :: es) X.env = (false, eval e X.env) :: starEach es X.env := by rfl) (hpl : (backTo pos (starEach es X.env)).any (·.1) = false := by rfl) :
    PS X (.Raise (some (.Call (.Name x p) (e :: es) [] pos)) none pos2) (fun _ σ H => tMkO C (SpI X.K ns) [] ta σ H fun cls d H' => W cls d σ H') := by
  obtain ⟨fd, ps, F, hb⟩ := O.ex
  exact ps_raise hc tk (pmk_oex O.own.ox O.own.iC O.own.tI F (hr.mono hj) hb .nil pass0 hg O.own.m ha hdb he hpl)
end
/-- isinstance(e, c), e the error that the suite holds -/
def rIsP (K : PySem.W.Frag) (a : Addr) (cls : Value) (d : Option Addr) : List V → Hp → VK → Prop := fun xs H Q => ∃ (D : Addr) (c : V) (u : Value) (b : Bool), cls = .ref D ∧ ExcC K D ∧ xs = [.ref a, c] ∧ (∀ dd, d = some dd → ∃ fs, H dd = some (.xd fs)) ∧ ClsV c u ∧ PySem.W.kitOne K (.ref D) u = some b ∧ Q (.bl b) H
theorem call_isP {X : Cx} {a : Addr} {cls : Value} {d : Option Addr} {oe : Obj} {pn : List (Addr × Obj)} (hz : Zc cls d oe) (hf : ∃ vs, oe.data = .fields vs) : CallR (X.suite a ((a, oe) :: pn)) (.builtin "isinstance") (rIsP X.K a cls d) := by
  intro pins s σ H xs us Q I r h
  obtain ⟨D, c, u, b, rfl, C, rfl, hd, k, e, q⟩ := h
  obtain ⟨u1, u2, rfl, r1, r2⟩ := vals2 r
  cases r1
  have e2 := k.eq r2
  subst e2
  obtain ⟨ha, _⟩ := I.pin (a, oe) (List.mem_append_left _ List.mem_cons_self)
  obtain ⟨vs, hv⟩ := hf
  have nc : PySem.W.notCls oe := by unfold PySem.W.notCls; rw [hv] <;> rfl
  have hc : (PySem.W.clsIn X.K D).isSome = true := by
    cases z : PySem.W.clsIn X.K D with
    | none => have := C.hd; unfold PySem.W.hasDictIn at this; rw [z] at this; exact this
    | some _ => rfl
  obtain ⟨od, J⟩ : ∃ od, PySem.W.InstAt s.heap a oe D od := by
    cases d with
    | none => exact ⟨none, ha, hz.1, nc, by rw [hz.2]; exact True.intro⟩
    | some dd =>
      obtain ⟨fs, z⟩ := hd dd rfl
      have hx : ObjOk X.prog X.w H s.heap dd (.xd fs) := I.hok dd _ z
      obtain ⟨mA, hns, _⟩ := hx
      obtain ⟨o2, ho, _⟩ := lookIn_ns hns
      exact ⟨some o2, ha, hz.1, nc, by rw [hz.2]; exact ho⟩
  exact PySem.W.kia_one (PySem.W.kitx_exc hc C.hg C.hk C.hs C.ha C.hn C.ht C.hm) I.kIn J e (fun z => nomatch z) fun tk => ⟨.bl b, H, I.tok tk, rfl, q⟩
section
variable {K : PySem.W.Frag} {E : XK} {χ : Xq} {Γ : List Sk} {φ : D → Prop} {W : Wh}
def WE.isP (a : Addr) (cls : Value) (d : Option Addr) (c : V) (u : Value) (hc : ClsV c u) (e : WE K E) : WE K E := ⟨tCB (rIsP K a cls d) (tCons e.t (tCons (tC c) tNil)), e.m, fun χ Γ φ => e.w χ Γ fun x => ∃ D dx ns ds b, x = .exc a dx ns ds ∧ cls = .ref D ∧ d = some dx ∧ ExcC K D ∧ PySem.W.kitOne K (.ref D) u = some b ∧ φ (.bl b), fun {p χ Γ φ} h σ Hd H n s sa pe l x Q q =>
  e.ok h σ Hd H n s sa pe l x _ fun v d' Hd1 H1 g1 pe1 ⟨D, dx, ns, ds, b, e1, e2, e3, hC, hk, f⟩ r => by
    subst e1
    cases r with
    | exc h1 h2 h3 => exact ⟨D, c, u, b, e2, hC, rfl, fun dd e => by rw [e3] at e; cases e; exact ⟨_, g1.s _ _ h1⟩, hc, hk, q _ _ Hd1 H1 g1 pe1 f (.bl _)⟩⟩
theorem w_isP {a : Addr} {cls : Value} {d : Option Addr} {c : V} {u : Value} {hc : ClsV c u} {e : WE K E} : (WE.isP a cls d c u hc e).w χ Γ φ = e.w χ Γ fun x => ∃ D dx ns ds b, x = .exc a dx ns ds ∧ cls = .ref D ∧ d = some dx ∧ ExcC K D ∧ PySem.W.kitOne K (.ref D) u = some b ∧ φ (.bl b) := rfl
def WE.isX (c : V) (u : Value) (hc : ClsV c u) (a : WE K E) : WE K E := WE.isE c u hc (tC c) (fun _ _ _ q => q) a
theorem w_isX {c : V} {u : Value} {hc : ClsV c u} {a : WE K E} : (WE.isX c u hc a).w χ Γ φ = a.w χ Γ fun d => ∃ C ns ds b, d = .err C ns ds ∧ ExcC K C ∧ PySem.W.kitOne K (.ref C) u = some b ∧ φ (.bl b) := rfl
theorem isX_at {ψ : Bool → Prop} {C : Addr} {u : Value} {ns : List Str} {ds : List D} {b : Bool} (h : ExcC K C) (k : PySem.W.kitOne K (.ref C) u = some b) (f : ψ b) : ∃ C' ns' ds', D.err C ns ds = .err C' ns' ds' ∧ ExcC K C' ∧ ∃ b, PySem.W.kitOne K (.ref C') u = some b ∧ ψ b := ⟨_, _, _, rfl, h, _, k, f⟩
theorem isP_at {ψ : Bool → Prop} {x dx C : Addr} {u : Value} {ns : List Str} {ds : List D} {b : Bool} (h : ExcC K C) (k : PySem.W.kitOne K (.ref C) u = some b) (f : ψ b) : ∃ D' dx' ns' ds', D.exc x dx ns ds = .exc x dx' ns' ds' ∧ Value.ref C = .ref D' ∧ dx = dx' ∧ ExcC K D' ∧ ∃ b, PySem.W.kitOne K (.ref D') u = some b ∧ ψ b := ⟨_, _, _, _, rfl, rfl, rfl, h, _, k, f⟩
/-- try: raise C(..) except C1 as n: .. except .. -/
def WS.tryRaise (C : Addr) (ns : List Str) (a : WA K E) (T : OexC K C) (no : ∀ f ∈ ns, PySem.W.findIn K (.ref C) f = some none) (cl : List (Cl K E)) (m : Nat) (hm : ∀ q ∈ cl, ∀ a c d, (q.s a c d).m ≤ m) : WS K E :=
  ⟨fun En σ H => tMkO C (SpI K ns) [] a.t σ H fun cls d H' => wSome K (fun cls d _ H => E cls d H) En (clT cl) cls d σ H', a.m + m,
   fun χ Γ W => a.w χ Γ fun ds => ds.length = ns.length ∧ ds.length ≤ 1000 ∧ ChW K χ Γ W cl C (ns.zip ds).reverse,
   fun {p χ Γ W} h Hb Hd0 H0 σ Hd H n o l x En k1 k2 k3 k4 => by
    refine a.ok h σ Hd H n o.sr o.g.s o.pe (by omega) (x.grow o.g) _ fun vs ds Hd1 H1 g1 pe1 ⟨f1, f2, f3⟩ r => ⟨by rw [r.length]; exact f2, fun a' ha => ?_⟩
    refine ⟨a', C, vs, by rw [List.append_nil], by rw [r.length]; exact f1, T, no, upd_same, fun dx H2 h1 h2 e1 e2 e3 => ⟨rfl, dx, _, e1, e2, ?_, ?_⟩⟩
    · rw [upd_ne h2] at h1; exact h1
    · rw [upd_ne h2] at h1
      have eH : upd (del H2 a') dx (.xd (ns.zip vs).reverse) = upd H1 dx (.xd (ns.zip vs).reverse) := by
        funext b
        by_cases q : b = dx
        · subst q; rw [upd_same, upd_same]
        · rw [upd_ne q, upd_ne q]
          by_cases q2 : b = a'
          · subst q2; rw [del_same, ha]
          · rw [del_ne q2, e3 b q2 q, upd_ne q2]
      rw [eH]
      have g2 : Grow none Hd1 H1 (upd Hd1 dx (.xd (ns.zip vs).reverse)) (upd H1 dx (.xd (ns.zip vs).reverse)) := Grow.new g1.s h1
      have hz : (ns.zip vs).reverse = (((ns.zip ds).reverse).map (·.1)).zip vs.reverse := by
        have l1 : ns.length = vs.length := by rw [r.length, f1]
        rw [List.map_reverse, List.map_fst_zip (by omega)]
        rw [zip_rev (by omega)]
      refine chain_ok (n := n + a.m) (m := m) (o.grow (g1.trans g2.up) (pe1.grow g2)) (by omega) x (fun _ _ _ _ f o => k1 _ _ _ _ f (o.more (by omega))) (fun _ _ _ _ f o => k2 _ _ _ _ f (o.more (by omega))) (fun _ _ _ _ f o => k3 _ _ _ _ f (o.more (by omega))) (fun _ _ _ _ f g pe r => k4 _ _ _ _ f g (pe.more (by omega)) r) ?_ hm f3
      refine ⟨vs.reverse, ?_, ?_⟩
      · rw [← hz]; exact upd_same
      · rw [List.map_reverse, List.map_snd_zip (by omega)]
        exact (r.mono g2.d).reverse⟩
theorem w_tryRaise {C : Addr} {ns : List Str} {a : WA K E} {T : OexC K C} {no : ∀ f ∈ ns, PySem.W.findIn K (.ref C) f = some none} {cl : List (Cl K E)} {m : Nat} {hm : ∀ q ∈ cl, ∀ a c d, (q.s a c d).m ≤ m} :
    (WS.tryRaise C ns a T no cl m hm).w χ Γ W = a.w χ Γ fun ds => ds.length = ns.length ∧ ds.length ≤ 1000 ∧ ChW K χ Γ W cl C (ns.zip ds).reverse := rfl
/-- clauses without names -/
structure Cl0 (K : PySem.W.Frag) (E : XK) where
  c : Value
  s : WS K E
def cl0T (cl : List (Cl0 K E)) : List (Value × (Addr → Value → Option Addr → TS)) := cl.map fun q => (q.c, fun _ _ _ => q.s.t)
def Ch0 (K : PySem.W.Frag) (χ : Xq) (Γ : List Sk) (W : Wh) : List (Cl0 K E) → Addr → Prop
  | [], _ => False
  | q :: r, C => ∃ y, PySem.W.exmOne K (.ref C) q.c = some y ∧ (y = true → q.s.w χ Γ W) ∧ (y = false → Ch0 K χ Γ W r C)
theorem ch0_cons {q : Cl0 K E} {r : List (Cl0 K E)} {C : Addr} : Ch0 K χ Γ W (q :: r) C = ∃ y, PySem.W.exmOne K (.ref C) q.c = some y ∧ (y = true → q.s.w χ Γ W) ∧ (y = false → Ch0 K χ Γ W r C) := rfl
/-- try: raise C() except C1: .. except C2: .. -/
def WS.tryRaise0 (C : Addr) (cl : List (Cl0 K E)) (m : Nat) (hm : ∀ q ∈ cl, q.s.m ≤ m) : WS K E :=
  ⟨fun En σ H => wMany K (fun cls d _ H => E cls d H) En (cl0T cl) (.ref C) none σ H, m, fun χ Γ W => Ch0 K χ Γ W cl C,
   fun {p χ Γ W} h Hb Hd0 H0 σ Hd H n o l x En k1 k2 k3 k4 => by
    induction cl with
    | nil => exact h.elim
    | cons q r ih =>
      obtain ⟨y, f1, f2, f3⟩ := h
      refine ⟨y, f1, fun yt a' ha => ?_, fun yf => ih (fun q hq => hm q (List.mem_cons_of_mem _ hq)) (f3 yf)⟩
      have hm' := hm q List.mem_cons_self
      refine q.s.ok (f2 yt) Hb Hd0 H0 _ _ _ _ o (by omega) x _ ?_ ?_ ?_ ?_
      · intro Γ' σ' Hd' H' f o3; exact k1 _ _ _ _ f (o3.more (by omega))
      · intro Γ' σ' Hd' H' f o3; exact k2 _ _ _ _ f (o3.more (by omega))
      · intro Γ' σ' Hd' H' f o3; exact k3 _ _ _ _ f (o3.more (by omega))
      · intro v d Hd' H' f g pe r; exact k4 _ _ _ _ f g (pe.more (by omega)) r⟩
theorem w_tryRaise0 {C : Addr} {cl : List (Cl0 K E)} {m : Nat} {hm : ∀ q ∈ cl, q.s.m ≤ m} : (WS.tryRaise0 C cl m hm).w χ Γ W = Ch0 K χ Γ W cl C := rfl
end
/-! ### a table of error classes -/
inductive All1 {α : Type} (P : α → Prop) : List α → Prop
  | nil : All1 P []
  | cons {a : α} {l : List α} : P a → All1 P l → All1 P (a :: l)
theorem All1.at {α : Type} {P : α → Prop} : ∀ {l : List α}, All1 P l → ∀ a ∈ l, P a
  | _, .cons h r, a, ha => by
    rcases List.mem_cons.mp ha with rfl | z
    · exact h
    · exact All1.at r a z
/-- two by two no classes of one another -/
inductive Off (K : PySem.W.Frag) : List Addr → Prop
  | nil : Off K []
  | cons {C : Addr} {l : List Addr} : All1 (fun D => PySem.W.subIn K (.ref C) (.ref D) = some false ∧ PySem.W.subIn K (.ref D) (.ref C) = some false) l → Off K l → Off K (C :: l)
/-- what is told of error classes: cs, all below F -/
structure ErrTab (K : PySem.W.Frag) (cs : List Addr) (F : Addr) : Prop where
  ex : All1 (ExcC K) cs
  cl : All1 (fun C => PySem.W.isClsIn K C = true ∧ PySem.W.typeIn K (.ref C) = some (.type "type")) (F :: cs)
  se : All1 (fun C => PySem.W.subIn K (.ref C) (.ref C) = some true) cs
  off : Off K cs
  up : All1 (fun C => PySem.W.subIn K (.ref C) (.ref F) = some true) cs
  ve : All1 (fun C => PySem.W.subIn K (.ref C) (.type "ValueError") = some true) cs
  fb : PySem.W.subIn K (.ref F) (.type "BaseException") = some true
abbrev OwnC.adr {K : PySem.W.Frag} {mg : Str → Option Value} {x : Str} {C fI : Addr} {ns : List Str} (_ : OwnC K mg x C fI ns) : Addr := C
abbrev OexN.adr {K : PySem.W.Frag} {mg : Str → Option Value} {x : Str} {C : Addr} (_ : OexN K mg x C) : Addr := C
theorem Off.at {K : PySem.W.Frag} : ∀ {cs : List Addr} {i j : Nat} {C D : Addr}, Off K cs → cs[i]? = some C → cs[j]? = some D → i ≠ j → PySem.W.subIn K (.ref C) (.ref D) = some false
  | _, 0, 0, _, _, _, _, _, n => absurd rfl n
  | _, 0, j + 1, C, D, .cons h r, h1, h2, n => by
    simp at h1 h2
    subst h1
    exact (h.at D (List.mem_of_getElem? h2)).1
  | _, i + 1, 0, C, D, .cons h r, h1, h2, n => by
    simp at h1 h2
    subst h2
    exact (h.at C (List.mem_of_getElem? h1)).2
  | _, i + 1, j + 1, C, D, .cons h r, h1, h2, n => Off.at r (by simpa using h1) (by simpa using h2) (by omega)
theorem kit_self' {K : PySem.W.Frag} {C : Addr} : PySem.W.kitOne K (.ref C) (.ref C) = some true := by
  unfold PySem.W.kitOne
  rw [if_pos (beq_self_eq_true _)]
theorem kitCls_ref {K : PySem.W.Frag} {C D : Addr} {b : Bool} (h1 : PySem.W.isClsIn K D = true ∧ PySem.W.typeIn K (.ref D) = some (.type "type")) (h : PySem.W.subIn K (.ref C) (.ref D) = some b) : PySem.W.kitCls K (.ref C) (.ref D) = some b := by
  have h0 : (PySem.W.clsIn K D).isSome = true := h1.1
  show (if ((PySem.W.clsIn K D).isSome && PySem.W.typeIn K (.ref D) == some (.type "type")) = true then PySem.W.subIn K (.ref C) (.ref D) else none) = some b
  rw [if_pos (by rw [h0, h1.2] <;> rfl)]
  exact h
theorem kit_ref {K : PySem.W.Frag} {C D : Addr} {b : Bool} (n : C ≠ D) (h1 : PySem.W.isClsIn K D = true ∧ PySem.W.typeIn K (.ref D) = some (.type "type")) (h : PySem.W.subIn K (.ref C) (.ref D) = some b) : PySem.W.kitOne K (.ref C) (.ref D) = some b := by
  unfold PySem.W.kitOne
  rw [if_neg (fun z => n (Value.ref.inj (beq_iff_eq.mp z)))]
  exact kitCls_ref h1 h
section
variable {K : PySem.W.Frag} {cs : List Addr} {F C D : Addr} {i j : Nat}
theorem ErrTab.ne (T : ErrTab K cs F) (hi : cs[i]? = some C) (hj : cs[j]? = some D) (n : i ≠ j) : C ≠ D := fun e => by
  subst e
  have h1 := T.se.at C (List.mem_of_getElem? hi)
  rw [T.off.at hi hj n] at h1
  cases h1
theorem ErrTab.kit (T : ErrTab K cs F) (hi : cs[i]? = some C) (hj : cs[j]? = some D) : PySem.W.kitOne K (.ref C) (.ref D) = some (decide (i = j)) := by
  by_cases e : i = j
  · subst e
    rw [hi] at hj; cases hj
    rw [decide_eq_true rfl]; exact kit_self'
  · rw [decide_eq_false e]
    exact kit_ref (T.ne hi hj e) (T.cl.at D (List.mem_cons_of_mem _ (List.mem_of_getElem? hj))) (T.off.at hi hj e)
theorem ErrTab.kitF (T : ErrTab K cs F) (hC : C ∈ cs) : PySem.W.kitOne K (.ref C) (.ref F) = some true := by
  by_cases e : C = F
  · subst e; exact kit_self'
  · exact kit_ref e (T.cl.at F List.mem_cons_self) (T.up.at C hC)
theorem ErrTab.kitV (T : ErrTab K cs F) (hC : C ∈ cs) : PySem.W.kitOne K (.ref C) (.type "ValueError") = some true := by
  unfold PySem.W.kitOne
  have n : ¬ (Value.ref C == Value.type "ValueError") = true := fun z => by
    have e : Value.ref C = Value.type "ValueError" := beq_iff_eq.mp z
    cases e
  rw [if_neg n]
  show (if PySem.W.kitMeta "ValueError" = true then PySem.W.subIn K (.ref C) (.type "ValueError") else none) = some true
  rw [if_pos (by decide +kernel)]
  exact T.ve.at C hC
theorem ErrTab.exm (T : ErrTab K cs F) (hi : cs[i]? = some C) (hj : cs[j]? = some D) (n : i ≠ j) : PySem.W.exmOne K (.ref C) (.ref D) = some false := by
  unfold PySem.W.exmOne
  rw [(T.ex.at D (List.mem_of_getElem? hj)).hs, if_pos (show (some true == some true) = true by decide)]
  exact kitCls_ref (T.cl.at D (List.mem_cons_of_mem _ (List.mem_of_getElem? hj))) (T.off.at hi hj n)
theorem ErrTab.exmF (T : ErrTab K cs F) (hC : C ∈ cs) : PySem.W.exmOne K (.ref C) (.ref F) = some true := by
  unfold PySem.W.exmOne
  rw [T.fb, if_pos (show (some true == some true) = true by decide)]
  exact kitCls_ref (T.cl.at F List.mem_cons_self) (T.up.at C hC)
end
section
variable {c : Ct} {Hb Hd0 H0 : Hp} {σ : L2.St} {Γ : List Sk} {Hd H : Hp} {n i : Nat}
theorem Ok.nu (o : Ok c Hb Hd0 H0 σ Γ Hd H n) {a : Addr} (h : H a = none) : ∀ (j : Nat) k l, Γ[j]? = some k → k.isOwn = true → σ[j]? = some (some (.ref l)) → l ≠ a := fun j k l h1 h2 h3 z => by
  subst z
  have q := o.sr.ok j _ k h3 h1
  cases k with
  | own _ => obtain ⟨l', vs', e, e2, _⟩ := q; cases e; rw [h] at e2; cases e2
  | ow _ _ => obtain ⟨l', vs', e, e2, _⟩ := q; cases e; rw [h] at e2; cases e2
  | odk _ _ => obtain ⟨l', vs', e, e2, _⟩ := q; cases e; rw [h] at e2; cases e2
  | slf _ _ _ _ _ => obtain ⟨l', vs', e, e2, _⟩ := q; cases e; rw [h] at e2; cases e2
  | _ => cases h2
/-- a slot takes a local object that stands already -/
theorem Ok.adopt (o : Ok c Hb Hd0 H0 σ Γ Hd H n) {a : Addr} {k0 : Sk} (ho : k0.isOwn = true) (ha : SkAt c.K c.p Hd H (some (.ref a)) k0) (nu : ∀ (j : Nat) k l, Γ[j]? = some k → k.isOwn = true → σ[j]? = some (some (.ref l)) → l ≠ a) (f0 : H0 a = none) :
    Ok c Hb Hd0 H0 (σ.set i (some (.ref a))) (Γ.set i k0) Hd H n := by
  refine ⟨o.b, o.s0, o.g, ⟨?_, fun j o' k h1 h2 => ?_, fun j j' k1 k2 l nj h1 o1 h2 o2 e1 e2 => ?_⟩, o.pe, fun j k l h1 h2 h3 => ?_⟩
  · rw [List.length_set, List.length_set]; exact o.sr.len
  · by_cases e : i = j
    · subst e
      by_cases hl : i < Γ.length
      · rw [List.getElem?_set_self hl] at h2; cases h2
        rw [List.getElem?_set_self (by rw [o.sr.len]; exact hl)] at h1; cases h1
        exact ha
      · rw [List.getElem?_eq_none (by rw [List.length_set]; omega)] at h2; cases h2
    · rw [List.getElem?_set_ne e] at h1 h2
      exact o.sr.ok j _ _ h1 h2
  · by_cases a1 : i = j
    · subst a1
      have a2 : i ≠ j' := nj
      rw [List.getElem?_set_ne a2] at h2 e2
      have hl : i < σ.length := by
        have := (List.getElem?_eq_some_iff.mp e1).1
        rwa [List.length_set] at this
      rw [List.getElem?_set_self hl] at e1; cases e1
      exact nu j' k2 _ h2 o2 e2 rfl
    · rw [List.getElem?_set_ne a1] at h1 e1
      by_cases a2 : i = j'
      · subst a2
        have hl : i < σ.length := by
          have := (List.getElem?_eq_some_iff.mp e2).1
          rwa [List.length_set] at this
        rw [List.getElem?_set_self hl] at e2; cases e2
        exact nu j k1 _ h1 o1 e1 rfl
      · rw [List.getElem?_set_ne a2] at h2 e2
        exact o.sr.ap j j' k1 k2 l nj h1 o1 h2 o2 e1 e2
  · by_cases e : i = j
    · subst e
      have hl : i < σ.length := by
        have := (List.getElem?_eq_some_iff.mp h3).1
        rwa [List.length_set] at this
      rw [List.getElem?_set_self hl] at h3; cases h3
      exact f0
    · rw [List.getElem?_set_ne e] at h1 h3
      exact o.fr j k l h1 h2 h3
end
section
variable {K : PySem.W.Frag} {E : XK} {χ : Xq} {Γ : List Sk} {W : Wh}
/-- xs, y = [..], e : the first one's own -/
def WS.parOL (i j : Nat) (a : WA K E) (b : WE K E) : WS K E := ⟨tPar i j (tCons (tLst a.t) (tCons b.t tNil)), a.m + b.m, fun χ Γ W => a.w χ Γ fun ds => ds.length ≤ 1000 ∧ b.w χ Γ fun d => W.N ((Γ.set i (.own ds)).set j (.dat d)), fun {p χ Γ W} h Hb Hd0 H0 σ Hd H n o l x En k1 k2 k3 k4 => by
  refine a.ok h σ Hd H n o.sr o.g.s o.pe (by omega) (x.grow o.g) _ fun vs ds Hd1 H1 g1 pe1 ⟨f1, f2⟩ r => ⟨Nat.le_of_lt (small1000 (by rw [r.length]; exact f1)), fun a' ha => ?_⟩
  have o1 := o.grow g1 pe1
  have ne := Pn.ne_of o1.pe ha
  have gl := Grow.loc (p := p.a) (o := HO.lst vs) o1.g.s ha
  have oL := o1.grow gl (pe1.write ne)
  have hd : Hd1 a' = none := o1.g.s.free ha
  refine b.ok f2 σ Hd1 _ (n + a.m) oL.sr oL.g.s oL.pe (by omega) (x.grow oL.g) _ fun v d Hd2 H2 g2 pe2 f3 r2 => ?_
  have o2 := oL.grow g2 pe2
  have e2 : H2 a' = some (.lst vs) := g2.h _ _ ne upd_same
  have n2 : Hd2 a' = none := g2.f _ (by rw [upd_same]; simp) hd
  have o3 := o2.adopt (i := i) (a := a') (k0 := .own ds) rfl ⟨a', vs, rfl, e2, n2, r.mono g2.d, ne⟩ (o1.nu ha) (o1.g.free ha)
  exact ⟨_, _, rfl, k1 _ _ _ _ f3 ((o3.set r2).more (by omega))⟩⟩
theorem w_parOL {i j : Nat} {a : WA K E} {b : WE K E} : (WS.parOL i j a b).w χ Γ W = a.w χ Γ fun ds => ds.length ≤ 1000 ∧ b.w χ Γ fun d => W.N ((Γ.set i (.own ds)).set j (.dat d)) := rfl
def OwAt (Γ : List Sk) (i : Nat) (φ : Addr → List D → Prop) : Prop := match Γ[i]? with | some (.ow a ds) => φ a ds | _ => False
theorem owAt_0 {a : Addr} {ds : List D} {φ : Addr → List D → Prop} : OwAt (.ow a ds :: Γ) 0 φ = φ a ds := rfl
theorem owAt_s {s : Sk} {i : Nat} {φ : Addr → List D → Prop} : OwAt (s :: Γ) (i + 1) φ = OwAt Γ i φ := rfl
theorem w_pvar {i : Nat} {φ : D → Prop} : (WE.pvar (K := K) (E := E) i).w χ Γ φ = OwAt Γ i fun a _ => φ (.ptr a) := rfl
theorem w_name {i : Nat} {s : WS K E} : (WS.name i s).w χ Γ W = OwnAt Γ i fun ds => ∀ a, s.w χ (Γ.set i (.ow a ds)) W := rfl
theorem w_tell {i : Nat} {s : WS K E} : (WS.tell i s).w χ Γ W = OwAt Γ i fun a ds => s.w χ ((Γ.set i (.dat (.lst ds))).map (Sk.sub a ds)) W := rfl
theorem w_appendO {i : Nat} {e : WE K E} : (WS.appendO i e).w χ Γ W = OwAt Γ i fun a ds => e.w χ Γ fun d => ds.length < 1000000 ∧ W.N (Γ.set i (.ow a (ds ++ [d]))) := rfl
end
section
variable {a b : Addr} {es : List D}
theorem sub_un : Sk.sub a es .un = .un := rfl
theorem sub_pen : Sk.sub a es .pen = .pen := rfl
theorem sub_dat {d : D} : Sk.sub a es (.dat d) = .dat (d.sub a es) := rfl
theorem dsub_non : D.sub a es .non = .non := by unfold D.sub; rfl
theorem dsub_bl {b : Bool} : D.sub a es (.bl b) = .bl b := by unfold D.sub; rfl
theorem dsub_int {b : Int} : D.sub a es (.int b) = .int b := by unfold D.sub; rfl
theorem dsub_str {b : Str} : D.sub a es (.str b) = .str b := by unfold D.sub; rfl
theorem dsub_ptr : D.sub a es (.ptr a) = .lst es := by unfold D.sub; rw [if_pos rfl]
theorem dsub_lst {ds : List D} : D.sub a es (.lst ds) = .lst (D.subs a es ds) := by rw [D.sub]
theorem dsub_tup {ds : List D} : D.sub a es (.tup ds) = .tup (D.subs a es ds) := by rw [D.sub]
theorem dsub_err {C : Addr} {ns : List Str} {ds : List D} : D.sub a es (.err C ns ds) = .err C ns (D.subs a es ds) := by rw [D.sub]
theorem dsubs_nil : D.subs a es [] = [] := by rw [D.subs]
theorem dsubs_cons {d : D} {ds : List D} : D.subs a es (d :: ds) = d.sub a es :: D.subs a es ds := by rw [D.subs]
end
/-! ### the facts at a law's start -/
structure BaseC (mg : Str → Option Value) (x : Str) (C : Addr) : Prop where
  m : mg x = some (.ref C)
abbrev BaseC.adr {mg : Str → Option Value} {x : Str} {C : Addr} (_ : BaseC mg x C) : Addr := C
section
variable {K : PySem.W.Frag} {h : Heap} {mg : Str → Option Value} {x : Str} {C : Addr} {goal : Prop}
theorem oexN_then (X : K.In h) (G : h.Ns mainGlobals mg) (aC : PySem.W.nsIn K mainGlobals x = some (some (.ref C))) (q : PySem.W.excIn K C [.type "ValueError", .type "Exception", .type "BaseException", .type "object"] "ValueError.__new__" = true)
    (eC : PySem.W.subIn K (.ref C) (.type "BaseException") = some true) (tC : PySem.W.typeIn K (.ref C) = some (.type "type")) (kC : PySem.W.keepIn K (.ref C) = true) (r : OexN K mg x C → goal) : goal := r ⟨q, eC, tC, kC, PySem.W.mg_of X G aC⟩
theorem base_then (X : K.In h) (G : h.Ns mainGlobals mg) (aC : PySem.W.nsIn K mainGlobals x = some (some (.ref C))) (r : BaseC mg x C → goal) : goal := r ⟨PySem.W.mg_of X G aC⟩
end
end DL
set_option maxRecDepth 100000
set_option maxHeartbeats 8000000
namespace K01
open PySem L2 PyProof.Rows DL
def top (i : Nat) : Stmt := PySem.Challenge.pw_lentvoices_k01_errors.main.body.getD i (.Pass ⟨0, 0, 0, 0⟩)
abbrev s_BadText___init__ : Stmt := inClass (top 2) 0
abbrev N_BadText___init__ : List Str := ["self", "line", "word"]
theorem sc_BadText___init__ : FnScope N_BadText___init__ ["self", "line", "word"] (defScope s_BadText___init__) := ⟨rfl, rfl, rfl, by decide +kernel, rfl, by decide +kernel, by decide +kernel⟩
abbrev s_BadName___init__ : Stmt := inClass (top 3) 0
abbrev N_BadName___init__ : List Str := ["self", "name"]
theorem sc_BadName___init__ : FnScope N_BadName___init__ ["self", "name"] (defScope s_BadName___init__) := ⟨rfl, rfl, rfl, by decide +kernel, rfl, by decide +kernel, by decide +kernel⟩
abbrev s_BadNumber___init__ : Stmt := inClass (top 4) 0
abbrev N_BadNumber___init__ : List Str := ["self", "what", "number"]
theorem sc_BadNumber___init__ : FnScope N_BadNumber___init__ ["self", "what", "number"] (defScope s_BadNumber___init__) := ⟨rfl, rfl, rfl, by decide +kernel, rfl, by decide +kernel, by decide +kernel⟩
abbrev s_BadSaying___init__ : Stmt := inClass (top 5) 0
abbrev N_BadSaying___init__ : List Str := ["self", "saying"]
theorem sc_BadSaying___init__ : FnScope N_BadSaying___init__ ["self", "saying"] (defScope s_BadSaying___init__) := ⟨rfl, rfl, rfl, by decide +kernel, rfl, by decide +kernel, by decide +kernel⟩
abbrev s_BadLetter___init__ : Stmt := inClass (top 6) 0
abbrev N_BadLetter___init__ : List Str := ["self", "index"]
theorem sc_BadLetter___init__ : FnScope N_BadLetter___init__ ["self", "index"] (defScope s_BadLetter___init__) := ⟨rfl, rfl, rfl, by decide +kernel, rfl, by decide +kernel, by decide +kernel⟩
abbrev s_BadBody___init__ : Stmt := inClass (top 7) 0
abbrev N_BadBody___init__ : List Str := ["self", "body"]
theorem sc_BadBody___init__ : FnScope N_BadBody___init__ ["self", "body"] (defScope s_BadBody___init__) := ⟨rfl, rfl, rfl, by decide +kernel, rfl, by decide +kernel, by decide +kernel⟩
abbrev s_BadAim___init__ : Stmt := inClass (top 8) 0
abbrev N_BadAim___init__ : List Str := ["self", "index"]
theorem sc_BadAim___init__ : FnScope N_BadAim___init__ ["self", "index"] (defScope s_BadAim___init__) := ⟨rfl, rfl, rfl, by decide +kernel, rfl, by decide +kernel, by decide +kernel⟩
abbrev s_BadRow___init__ : Stmt := inClass (top 9) 0
abbrev N_BadRow___init__ : List Str := ["self", "what", "row"]
theorem sc_BadRow___init__ : FnScope N_BadRow___init__ ["self", "what", "row"] (defScope s_BadRow___init__) := ⟨rfl, rfl, rfl, by decide +kernel, rfl, by decide +kernel, by decide +kernel⟩
abbrev s_NoName___init__ : Stmt := inClass (top 10) 0
abbrev N_NoName___init__ : List Str := ["self", "name"]
theorem sc_NoName___init__ : FnScope N_NoName___init__ ["self", "name"] (defScope s_NoName___init__) := ⟨rfl, rfl, rfl, by decide +kernel, rfl, by decide +kernel, by decide +kernel⟩
abbrev s_TakenName___init__ : Stmt := inClass (top 11) 0
abbrev N_TakenName___init__ : List Str := ["self", "name"]
theorem sc_TakenName___init__ : FnScope N_TakenName___init__ ["self", "name"] (defScope s_TakenName___init__) := ⟨rfl, rfl, rfl, by decide +kernel, rfl, by decide +kernel, by decide +kernel⟩
abbrev s_Unlike___init__ : Stmt := inClass (top 12) 0
abbrev N_Unlike___init__ : List Str := ["self", "what"]
theorem sc_Unlike___init__ : FnScope N_Unlike___init__ ["self", "what"] (defScope s_Unlike___init__) := ⟨rfl, rfl, rfl, by decide +kernel, rfl, by decide +kernel, by decide +kernel⟩
abbrev s_NotThere___init__ : Stmt := inClass (top 13) 0
abbrev N_NotThere___init__ : List Str := ["self", "what"]
theorem sc_NotThere___init__ : FnScope N_NotThere___init__ ["self", "what"] (defScope s_NotThere___init__) := ⟨rfl, rfl, rfl, by decide +kernel, rfl, by decide +kernel, by decide +kernel⟩
abbrev s_TooMany___init__ : Stmt := inClass (top 14) 0
abbrev N_TooMany___init__ : List Str := ["self", "what", "many", "limit"]
theorem sc_TooMany___init__ : FnScope N_TooMany___init__ ["self", "what", "many", "limit"] (defScope s_TooMany___init__) := ⟨rfl, rfl, rfl, by decide +kernel, rfl, by decide +kernel, by decide +kernel⟩
abbrev s_NotKept___init__ : Stmt := inClass (top 15) 0
abbrev N_NotKept___init__ : List Str := ["self", "promise", "witness"]
theorem sc_NotKept___init__ : FnScope N_NotKept___init__ ["self", "promise", "witness"] (defScope s_NotKept___init__) := ⟨rfl, rfl, rfl, by decide +kernel, rfl, by decide +kernel, by decide +kernel⟩
abbrev s_law_pen : Stmt := top 19
abbrev N_law_pen : List Str := ["script", "fold", "cell"]
theorem sc_law_pen : FnScope N_law_pen ["script"] (defScope s_law_pen) := ⟨rfl, rfl, rfl, by decide +kernel, rfl, by decide +kernel, by decide +kernel⟩
abbrev s_law_draw : Stmt := top 20
abbrev N_law_draw : List Str := ["pen", "many", "cell", "digit", "blend"]
theorem sc_law_draw : FnScope N_law_draw ["pen", "many"] (defScope s_law_draw) := ⟨rfl, rfl, rfl, by decide +kernel, rfl, by decide +kernel, by decide +kernel⟩
abbrev s_law_pick : Stmt := top 21
abbrev N_law_pick : List Str := ["pen", "some"]
theorem sc_law_pick : FnScope N_law_pick ["pen", "some"] (defScope s_law_pick) := ⟨rfl, rfl, rfl, by decide +kernel, rfl, by decide +kernel, by decide +kernel⟩
abbrev s_law_thing : Stmt := top 22
abbrev N_law_thing : List Str := ["pen"]
theorem sc_law_thing : FnScope N_law_thing ["pen"] (defScope s_law_thing) := ⟨rfl, rfl, rfl, by decide +kernel, rfl, by decide +kernel, by decide +kernel⟩
abbrev s_law_classes : Stmt := top 23
abbrev N_law_classes : List Str := ["error", "found"]
theorem sc_law_classes : FnScope N_law_classes ["error"] (defScope s_law_classes) := ⟨rfl, rfl, rfl, by decide +kernel, rfl, by decide +kernel, by decide +kernel⟩
abbrev s_law_raised_right : Stmt := top 24
abbrev N_law_raised_right : List Str := ["one", "found", "error"]
theorem sc_law_raised_right : FnScope N_law_raised_right ["one"] (defScope s_law_raised_right) := ⟨rfl, rfl, rfl, by decide +kernel, rfl, by decide +kernel, by decide +kernel⟩
abbrev s_law_fields_right : Stmt := top 25
abbrev N_law_fields_right : List Str := ["one", "other", "text", "number", "row", "kept", "many"]
theorem sc_law_fields_right : FnScope N_law_fields_right ["one", "other"] (defScope s_law_fields_right) := ⟨rfl, rfl, rfl, by decide +kernel, rfl, by decide +kernel, by decide +kernel⟩
abbrev s_law : Stmt := top 26
abbrev N_law : List Str := ["script", "pen", "lap", "number", "rows", "due", "kept", "one", "other", "found", "k", "error", "j"]
theorem sc_law : FnScope N_law ["script"] (defScope s_law) := ⟨rfl, rfl, rfl, by decide +kernel, rfl, by decide +kernel, by decide +kernel⟩
structure Txt (K : PySem.W.Frag) (mg : Str → Option Value) (a_BadAim i_BadAim a_BadBody i_BadBody a_BadLetter i_BadLetter a_BadName i_BadName a_BadNumber i_BadNumber a_BadRow i_BadRow a_BadSaying i_BadSaying a_BadText i_BadText a_NoName i_NoName a_NotKept i_NotKept a_NotThere i_NotThere a_TakenName i_TakenName a_TooMany i_TooMany a_Unlike i_Unlike a_NothingToRedo a_NothingToUndo a_ForumError : Addr) : Prop where
  b_ValueError : mg "ValueError" = none
  b_enumerate : mg "enumerate" = none
  b_int : mg "int" = none
  b_isinstance : mg "isinstance" = none
  b_len : mg "len" = none
  b_list : mg "list" = none
  b_range : mg "range" = none
  x_BadAim : OwnC K mg "BadAim" a_BadAim i_BadAim ["index"]
  x_BadBody : OwnC K mg "BadBody" a_BadBody i_BadBody ["body"]
  x_BadLetter : OwnC K mg "BadLetter" a_BadLetter i_BadLetter ["index"]
  x_BadName : OwnC K mg "BadName" a_BadName i_BadName ["name"]
  x_BadNumber : OwnC K mg "BadNumber" a_BadNumber i_BadNumber ["what", "number"]
  x_BadRow : OwnC K mg "BadRow" a_BadRow i_BadRow ["what", "row"]
  x_BadSaying : OwnC K mg "BadSaying" a_BadSaying i_BadSaying ["saying"]
  x_BadText : OwnC K mg "BadText" a_BadText i_BadText ["line", "word"]
  x_NoName : OwnC K mg "NoName" a_NoName i_NoName ["name"]
  x_NotKept : OwnC K mg "NotKept" a_NotKept i_NotKept ["promise", "witness"]
  x_NotThere : OwnC K mg "NotThere" a_NotThere i_NotThere ["what"]
  x_TakenName : OwnC K mg "TakenName" a_TakenName i_TakenName ["name"]
  x_TooMany : OwnC K mg "TooMany" a_TooMany i_TooMany ["what", "many", "limit"]
  x_Unlike : OwnC K mg "Unlike" a_Unlike i_Unlike ["what"]
  y_NothingToRedo : OexN K mg "NothingToRedo" a_NothingToRedo
  y_NothingToUndo : OexN K mg "NothingToUndo" a_NothingToUndo
  m_ForumError : mg "ForumError" = some (.ref a_ForumError)
  et : ErrTab K [a_BadText, a_BadName, a_BadNumber, a_BadSaying, a_BadLetter, a_BadBody, a_BadAim, a_BadRow, a_NoName, a_TakenName, a_Unlike, a_NotThere, a_TooMany, a_NotKept, a_NothingToUndo, a_NothingToRedo] a_ForumError
structure Defs (K : PySem.W.Frag) (mg : Str → Option Value) (a_BadAim i_BadAim a_BadBody i_BadBody a_BadLetter i_BadLetter a_BadName i_BadName a_BadNumber i_BadNumber a_BadRow i_BadRow a_BadSaying i_BadSaying a_BadText i_BadText a_NoName i_NoName a_NotKept i_NotKept a_NotThere i_NotThere a_TakenName i_TakenName a_TooMany i_TooMany a_Unlike i_Unlike a_NothingToRedo a_NothingToUndo a_ForumError : Addr) : Prop where
  e_BadAim : ∃ fd, Fun K "__init__" "BadAim.__init__" s_BadAim___init__ i_BadAim fd ∧ Binds K fd ["self", "index"] []
  e_BadBody : ∃ fd, Fun K "__init__" "BadBody.__init__" s_BadBody___init__ i_BadBody fd ∧ Binds K fd ["self", "body"] []
  e_BadLetter : ∃ fd, Fun K "__init__" "BadLetter.__init__" s_BadLetter___init__ i_BadLetter fd ∧ Binds K fd ["self", "index"] []
  e_BadName : ∃ fd, Fun K "__init__" "BadName.__init__" s_BadName___init__ i_BadName fd ∧ Binds K fd ["self", "name"] []
  e_BadNumber : ∃ fd, Fun K "__init__" "BadNumber.__init__" s_BadNumber___init__ i_BadNumber fd ∧ Binds K fd ["self", "what", "number"] []
  e_BadRow : ∃ fd, Fun K "__init__" "BadRow.__init__" s_BadRow___init__ i_BadRow fd ∧ Binds K fd ["self", "what", "row"] []
  e_BadSaying : ∃ fd, Fun K "__init__" "BadSaying.__init__" s_BadSaying___init__ i_BadSaying fd ∧ Binds K fd ["self", "saying"] []
  e_BadText : ∃ fd, Fun K "__init__" "BadText.__init__" s_BadText___init__ i_BadText fd ∧ Binds K fd ["self", "line", "word"] []
  e_NoName : ∃ fd, Fun K "__init__" "NoName.__init__" s_NoName___init__ i_NoName fd ∧ Binds K fd ["self", "name"] []
  e_NotKept : ∃ fd, Fun K "__init__" "NotKept.__init__" s_NotKept___init__ i_NotKept fd ∧ Binds K fd ["self", "promise", "witness"] []
  e_NotThere : ∃ fd, Fun K "__init__" "NotThere.__init__" s_NotThere___init__ i_NotThere fd ∧ Binds K fd ["self", "what"] []
  e_TakenName : ∃ fd, Fun K "__init__" "TakenName.__init__" s_TakenName___init__ i_TakenName fd ∧ Binds K fd ["self", "name"] []
  e_TooMany : ∃ fd, Fun K "__init__" "TooMany.__init__" s_TooMany___init__ i_TooMany fd ∧ Binds K fd ["self", "what", "many", "limit"] []
  e_Unlike : ∃ fd, Fun K "__init__" "Unlike.__init__" s_Unlike___init__ i_Unlike fd ∧ Binds K fd ["self", "what"] []
  d_law_pen : Def K mg "_law_pen" s_law_pen ["script"] []
  d_law_draw : Def K mg "_law_draw" s_law_draw ["pen", "many"] []
  d_law_pick : Def K mg "_law_pick" s_law_pick ["pen", "some"] []
  d_law_thing : Def K mg "_law_thing" s_law_thing ["pen"] []
  d_law_classes : Def K mg "_law_classes" s_law_classes ["error"] []
  d_law_raised_right : Def K mg "_law_raised_right" s_law_raised_right ["one"] []
  d_law_fields_right : Def K mg "_law_fields_right" s_law_fields_right ["one", "other"] []
  d_law : Def K mg "law" s_law ["script"] []
end K01
set_option maxRecDepth 100000
set_option maxHeartbeats 8000000
namespace K01
open PySem L2 PyProof.Rows DL
section
variable {P : Program} {w : World} {K : PySem.W.Frag} {mg : Str → Option Value} {base : Heap} {a_BadAim i_BadAim a_BadBody i_BadBody a_BadLetter i_BadLetter a_BadName i_BadName a_BadNumber i_BadNumber a_BadRow i_BadRow a_BadSaying i_BadSaying a_BadText i_BadText a_NoName i_NoName a_NotKept i_NotKept a_NotThere i_NotThere a_TakenName i_TakenName a_TooMany i_TooMany a_Unlike i_Unlike a_NothingToRedo a_NothingToUndo a_ForumError : Addr}
local macro_rules | `(tactic| walk_at "w") => `(tactic| simp (config := { maxSteps := 10000000 }) only [DL.sub_un, DL.sub_pen, DL.sub_dat, DL.dsub_non, DL.dsub_bl, DL.dsub_int, DL.dsub_str, DL.dsub_ptr, DL.dsub_lst, DL.dsub_tup, DL.dsub_err, DL.dsubs_nil, DL.dsubs_cons, DL.w_isX, DL.w_isP, DL.w_tryRaise, DL.chW_cons, DL.w_tryRaise0, DL.ch0_cons, DL.w_parOL, DL.owAt_0, DL.owAt_s, DL.w_pvar, DL.w_name, DL.w_tell, DL.w_appendO, DL.w_mkE, DL.w_mkE0, DL.w_fldX, DL.w_var, DL.w_int, DL.w_bl, DL.w_str, DL.w_non, DL.w_ktup, DL.w_op, DL.w_neg, DL.w_chain, DL.w_nil, DL.w_cons, DL.w_tup, DL.w_lst, DL.w_tst, DL.w_tb, DL.w_not, DL.w_yes, DL.w_and, DL.w_or, DL.w_andV, DL.w_orV, DL.w_notV, DL.w_ite, DL.w_none, DL.w_some, DL.w_sl, DL.w_cb, DL.w_isi, DL.w_isi2, DL.w_call, DL.w_callD, DL.w_callX, DL.w_callG, DL.w_split, DL.w_dget, DL.w_knil, DL.w_kcons, DL.w_dispK, DL.w_seqI, DL.w_rng1, DL.w_rng2, DL.w_enum, DL.w_zip, DL.w_lc, DL.w_borrow, DL.w_up, DL.w_popAt, DL.w_next, DL.w_brk, DL.w_cont, DL.w_seq, DL.w_ret, DL.w_retN, DL.w_asg, DL.w_asgT, DL.w_asgOwn, DL.w_drop, DL.w_ifS, DL.w_append, DL.w_raiseO, DL.w_xf, DL.w_tryAsg, DL.w_mkX, DL.w_fldR, DL.w_fld, DL.w_isC, DL.q_eqO, DL.q_neO, DL.w_tryMk, DL.slfAt_0, DL.slfAt_s, DL.w_asgLend, DL.lendAt_o, DL.lendAt_d, DL.lendAt_s, DL.w_borrowD, DL.w_asgIteL, DL.w_frz, frzAt_0, frzAt_d, frzAt_u, frzAt_s, DL.w_forS, DL.w_par, DL.w_parLE,
  DL.q_int, DL.q_cmp, DL.q_intC, DL.q_addI, DL.q_addS, DL.q_addT, DL.q_addL, DL.q_mulI, DL.q_mulS, DL.q_mulL, DL.q_eq, DL.q_ne, DL.q_isN, DL.q_isB, DL.q_notN, DL.q_inT, DL.q_inL, DL.q_inS, DL.q_ninT, DL.q_ninL, DL.q_ninS, DL.q_ixL, DL.q_ixT, DL.q_ixS, DL.n_len, DL.n_list, DL.n_tuple, DL.n_all, DL.n_any, DL.n_sum, DL.n_sortedS, DL.n_min2, DL.n_max2, DL.n_int1, DL.n_strI, DL.n_repr, DL.g_name, DL.is_name, cut_tup, cut_lst,  isi_str, isi_int, isi_bool, isi_tuple, isi_list,
  datAt_0, datAt_s, ownAt_0, ownAt_s, penIs_0, penIs_s, setD_nil, setD_cons, wipeG, List.set_cons_zero, List.set_cons_succ, List.set_nil, List.map_cons, List.map_nil, List.cons_append, List.nil_append,
  D.bl.injEq, D.int.injEq, D.str.injEq, exists_eq_left', exists_eq_left, exists_and_left, exists_eq', exists_eq, true_and, and_true, true_imp_iff, false_imp_iff, Bool.true_eq_false, Bool.false_eq_true, forall_const, Bool.not_true, Bool.not_false, List.length_cons, List.length_nil, eqv_str, eqv_int, ok_int, ok_bl, ok_non, forall_eq, atI_0, atI_1, atI_2, atI_3, List.getElem?_cons_zero, List.getElem?_cons_succ, List.getElem?_nil, Option.some.injEq, Sk.own.injEq, len_tup, len_lst, its_tup, its_lst, itemsOf_tup, itemsOf_lst, itemsOf_str, isS_str, isT_tup, isL_lst, isI_int, isB_bl, builtin_str, builtin_tup, builtin_lst, builtin_int, builtin_bl, builtin_non, D.sign_one, List.all_cons, List.all_nil, Bool.and_true])

abbrev m_law_draw : Nat := 1
abbrev pre_law_draw : List D → Prop
  | [.int n] => 0 < n ∧ n < 1073741824
  | _ => False
abbrev post_law_draw : List D → D → Prop
  | [.int n], r => ∃ k : Int, r = .int k ∧ 0 ≤ k ∧ k < n
  | _, _ => False
theorem c_law_draw (X : Defs K mg a_BadAim i_BadAim a_BadBody i_BadBody a_BadLetter i_BadLetter a_BadName i_BadName a_BadNumber i_BadNumber a_BadRow i_BadRow a_BadSaying i_BadSaying a_BadText i_BadText a_NoName i_NoName a_NotKept i_NotKept a_NotThere i_NotThere a_TakenName i_TakenName a_TooMany i_TooMany a_Unlike i_Unlike a_NothingToRedo a_NothingToUndo a_ForumError) (T : Txt K mg a_BadAim i_BadAim a_BadBody i_BadBody a_BadLetter i_BadLetter a_BadName i_BadName a_BadNumber i_BadNumber a_BadRow i_BadRow a_BadSaying i_BadSaying a_BadText i_BadText a_NoName i_NoName a_NotKept i_NotKept a_NotThere i_NotThere a_TakenName i_TakenName a_TooMany i_TooMany a_Unlike i_Unlike a_NothingToRedo a_NothingToUndo a_ForumError) : Cal P w K mg base "_law_draw" 1 ["pen", "many"] [] (SpG K m_law_draw pre_law_draw post_law_draw) := by
  refine cal_raw (N := N_law_draw) X.d_law_draw sc_law_draw (fun vs H Q E h => ?_) (fun f cdv A outer s H vs Q E hr ng h => ?_)
  · obtain ⟨a, cc, vs', Hd, ds, n, rfl, sa, pe, hn, r, hp, _⟩ := h
    rw [List.length_cons, r.length]
    match ds, hp with
    | [.int _], _ => rfl
  · obtain ⟨a, cc, vs', Hd, ds, n, rfl, sa, pe, hn, r, hp, q⟩ := h
    match ds, hp with
    | [.int many], hp =>
      refine ⟨tDraw K, (pss_cons (ps_dput (hu_of hr) (pv 0) pe_str (pe_op (op_addUk (K := K)) (pe_dget (hu_of hr) (pv 0) pe_str (fun _ _ => rfl)) pe_int) rfl)
 (pss_cons (ps_if (PW.pt (pw_and (pt_cmpR (op_eqDk (K := K) (Room.units hr)) (pe_dget (hu_of hr) (pv 0) pe_str (fun _ _ => rfl)) pe_int (nomark _)) (pw_and1 (pt_cmpR op_lt (pe_dget (hu_of hr) (pv 0) pe_str (fun _ _ => rfl)) (pe_callB (call_lenk (K := K)) (by rfl) T.b_len (by decide +kernel) (pa_cons (pe_dget (hu_of hr) (pv 0) pe_str (fun _ _ => rfl)) pa_nil)) (nomark _))))) (pss_cons (ps_set (i := 2) sc_law_draw.nd rfl (Or.inl rfl) (pe_ix (ix_seqk (K := K)) (pe_dget (hu_of hr) (pv 0) pe_str (fun _ _ => rfl)) (pe_dget (hu_of hr) (pv 0) pe_str (fun _ _ => rfl)) (fun _ _ => rfl)))
 (pss_cons (ps_dput (hu_of hr) (pv 0) pe_str (pe_op (op_addUk (K := K)) (pe_dget (hu_of hr) (pv 0) pe_str (fun _ _ => rfl)) pe_int) rfl)
 (pss_one (ps_if (pt_cmpR op_ge (pv 2) (pe_op op_pow pe_int pe_int) (nomark _)) (pss_one (ps_dput (hu_of hr) (pv 0) pe_str (pe_op op_sub (pv 2) (pe_op op_pow pe_int pe_int)) rfl)) (pss_one (ps_dput (hu_of hr) (pv 0) pe_str (pe_op op_mod (pe_callTy call_int1 (by rfl) T.b_int (by decide +kernel) (pa_cons (pe_op (op_addUk (K := K)) (pe_op (op_mulUk (K := K)) (pe_dget (hu_of hr) (pv 0) pe_str (fun _ _ => rfl)) pe_int) (pv 2)) pa_nil)) pe_int) rfl)))))) pss_nil)
 (pss_cons (ps_if (pt_cmpR op_gt (pe_dget (hu_of hr) (pv 0) pe_str (fun _ _ => rfl)) pe_int (nomark _)) (pss_cons (ps_set (i := 3) sc_law_draw.nd rfl (Or.inl rfl) (pe_op op_mod (pe_callTy call_int1 (by rfl) T.b_int (by decide +kernel) (pa_cons (pe_dget (hu_of hr) (pv 0) pe_str (fun _ _ => rfl)) pa_nil)) (pv 1)))
 (pss_cons (ps_dput (hu_of hr) (pv 0) pe_str (pe_op op_fdiv (pe_dget (hu_of hr) (pv 0) pe_str (fun _ _ => rfl)) (pv 1)) rfl)
 (pss_one (ps_ret (pv 3))))) pss_nil)
 (pss_cons (ps_set (i := 4) sc_law_draw.nd rfl (Or.inl rfl) (pe_op (op_addUk (K := K)) (pe_op (op_addUk (K := K)) (pe_dget (hu_of hr) (pv 0) pe_str (fun _ _ => rfl)) (pe_op (op_mulUk (K := K)) (pe_dget (hu_of hr) (pv 0) pe_str (fun _ _ => rfl)) pe_int)) pe_int))
 (pss_one (ps_ret (pe_op op_mod (pe_op op_fdiv (pe_callTy call_int1 (by rfl) T.b_int (by decide +kernel) (pa_cons (pe_op op_mod (pe_op op_pow (pv 4) pe_int) pe_int) pa_nil)) pe_int) (pv 1)))))))), ?_⟩
      cases r with | cons r1 r2 => cases r1; cases r2; exact draw_ok sa pe hn hp.1 hp.2 fun v d Hd' H' g pe' f r => q v d Hd' H' g pe' (by obtain ⟨n, k, e1, e2, e3, e4⟩ := f; cases e1; exact ⟨k, e2, e3, e4⟩) r
theorem c_law_pen (X : Defs K mg a_BadAim i_BadAim a_BadBody i_BadBody a_BadLetter i_BadLetter a_BadName i_BadName a_BadNumber i_BadNumber a_BadRow i_BadRow a_BadSaying i_BadSaying a_BadText i_BadText a_NoName i_NoName a_NotKept i_NotKept a_NotThere i_NotThere a_TakenName i_TakenName a_TooMany i_TooMany a_Unlike i_Unlike a_NothingToRedo a_NothingToUndo a_ForumError) (T : Txt K mg a_BadAim i_BadAim a_BadBody i_BadBody a_BadLetter i_BadLetter a_BadName i_BadName a_BadNumber i_BadNumber a_BadRow i_BadRow a_BadSaying i_BadSaying a_BadText i_BadText a_NoName i_NoName a_NotKept i_NotKept a_NotThere i_NotThere a_TakenName i_TakenName a_TooMany i_TooMany a_Unlike i_Unlike a_NothingToRedo a_NothingToUndo a_ForumError) : Cal P w K mg base "_law_pen" 1 ["script"] [] (SpPen K) := by
  refine cal_raw (N := N_law_pen) X.d_law_pen sc_law_pen (fun vs H Q E h => ?_) (fun f cdv A outer s H vs Q E hr ng h => ?_)
  · obtain ⟨a, ns, rfl, _⟩ := h; rfl
  · obtain ⟨a, ns, rfl, hs, hl, q⟩ := h
    exact ⟨tPenMake K, (pss_cons (ps_set (i := 1) sc_law_pen.nd rfl (Or.inl rfl) pe_int)
 (pss_cons (ps_for PassesOwn.never rfl (pi_seqk (K := K) (pv 0)) (pg_name (i := 2) sc_law_pen.nd rfl (Or.inl rfl)) (pss_one (ps_set (i := 1) sc_law_pen.nd rfl (Or.inl rfl) (pe_op op_mod (pe_callTy call_int1 (by rfl) T.b_int (by decide +kernel) (pa_cons (pe_op (op_addUk (K := K)) (pe_op (op_mulUk (K := K)) (pv 1) pe_int) (pv 2)) pa_nil)) pe_int))))
 (pss_one (ps_ret (pe_disp (pps_cons pe_str (pe_callTy (call_list_ofk (K := K)) (by rfl) T.b_list (by decide +kernel) (pa_cons (pv 0) pa_nil)) (pps_cons pe_str pe_int (pps_cons pe_str pe_int (pps_cons pe_str pe_int (pps_cons pe_str (pv 1) pps_nil))))) (by rfl) (by rfl) (fun z => by cases z) (by decide)))))), penMake_ok hs q⟩
theorem o_BadAim (X : Defs K mg a_BadAim i_BadAim a_BadBody i_BadBody a_BadLetter i_BadLetter a_BadName i_BadName a_BadNumber i_BadNumber a_BadRow i_BadRow a_BadSaying i_BadSaying a_BadText i_BadText a_NoName i_NoName a_NotKept i_NotKept a_NotThere i_NotThere a_TakenName i_TakenName a_TooMany i_TooMany a_Unlike i_Unlike a_NothingToRedo a_NothingToUndo a_ForumError) (T : Txt K mg a_BadAim i_BadAim a_BadBody i_BadBody a_BadLetter i_BadLetter a_BadName i_BadName a_BadNumber i_BadNumber a_BadRow i_BadRow a_BadSaying i_BadSaying a_BadText i_BadText a_NoName i_NoName a_NotKept i_NotKept a_NotThere i_NotThere a_TakenName i_TakenName a_TooMany i_TooMany a_Unlike i_Unlike a_NothingToRedo a_NothingToUndo a_ForumError) : OwnI P w K mg base "BadAim" a_BadAim i_BadAim ["index"] 1 := by
  obtain ⟨fd, F, b⟩ := X.e_BadAim
  exact ⟨T.x_BadAim, fd, _, init1_fn F sc_BadAim___init__ rfl rfl (fun cdv A outer s H E => pss_one (ps_ost (pv 0) (pv 1))), b⟩
theorem o_BadBody (X : Defs K mg a_BadAim i_BadAim a_BadBody i_BadBody a_BadLetter i_BadLetter a_BadName i_BadName a_BadNumber i_BadNumber a_BadRow i_BadRow a_BadSaying i_BadSaying a_BadText i_BadText a_NoName i_NoName a_NotKept i_NotKept a_NotThere i_NotThere a_TakenName i_TakenName a_TooMany i_TooMany a_Unlike i_Unlike a_NothingToRedo a_NothingToUndo a_ForumError) (T : Txt K mg a_BadAim i_BadAim a_BadBody i_BadBody a_BadLetter i_BadLetter a_BadName i_BadName a_BadNumber i_BadNumber a_BadRow i_BadRow a_BadSaying i_BadSaying a_BadText i_BadText a_NoName i_NoName a_NotKept i_NotKept a_NotThere i_NotThere a_TakenName i_TakenName a_TooMany i_TooMany a_Unlike i_Unlike a_NothingToRedo a_NothingToUndo a_ForumError) : OwnI P w K mg base "BadBody" a_BadBody i_BadBody ["body"] 1 := by
  obtain ⟨fd, F, b⟩ := X.e_BadBody
  exact ⟨T.x_BadBody, fd, _, init1_fn F sc_BadBody___init__ rfl rfl (fun cdv A outer s H E => pss_one (ps_ost (pv 0) (pv 1))), b⟩
theorem o_BadLetter (X : Defs K mg a_BadAim i_BadAim a_BadBody i_BadBody a_BadLetter i_BadLetter a_BadName i_BadName a_BadNumber i_BadNumber a_BadRow i_BadRow a_BadSaying i_BadSaying a_BadText i_BadText a_NoName i_NoName a_NotKept i_NotKept a_NotThere i_NotThere a_TakenName i_TakenName a_TooMany i_TooMany a_Unlike i_Unlike a_NothingToRedo a_NothingToUndo a_ForumError) (T : Txt K mg a_BadAim i_BadAim a_BadBody i_BadBody a_BadLetter i_BadLetter a_BadName i_BadName a_BadNumber i_BadNumber a_BadRow i_BadRow a_BadSaying i_BadSaying a_BadText i_BadText a_NoName i_NoName a_NotKept i_NotKept a_NotThere i_NotThere a_TakenName i_TakenName a_TooMany i_TooMany a_Unlike i_Unlike a_NothingToRedo a_NothingToUndo a_ForumError) : OwnI P w K mg base "BadLetter" a_BadLetter i_BadLetter ["index"] 1 := by
  obtain ⟨fd, F, b⟩ := X.e_BadLetter
  exact ⟨T.x_BadLetter, fd, _, init1_fn F sc_BadLetter___init__ rfl rfl (fun cdv A outer s H E => pss_one (ps_ost (pv 0) (pv 1))), b⟩
theorem o_BadName (X : Defs K mg a_BadAim i_BadAim a_BadBody i_BadBody a_BadLetter i_BadLetter a_BadName i_BadName a_BadNumber i_BadNumber a_BadRow i_BadRow a_BadSaying i_BadSaying a_BadText i_BadText a_NoName i_NoName a_NotKept i_NotKept a_NotThere i_NotThere a_TakenName i_TakenName a_TooMany i_TooMany a_Unlike i_Unlike a_NothingToRedo a_NothingToUndo a_ForumError) (T : Txt K mg a_BadAim i_BadAim a_BadBody i_BadBody a_BadLetter i_BadLetter a_BadName i_BadName a_BadNumber i_BadNumber a_BadRow i_BadRow a_BadSaying i_BadSaying a_BadText i_BadText a_NoName i_NoName a_NotKept i_NotKept a_NotThere i_NotThere a_TakenName i_TakenName a_TooMany i_TooMany a_Unlike i_Unlike a_NothingToRedo a_NothingToUndo a_ForumError) : OwnI P w K mg base "BadName" a_BadName i_BadName ["name"] 1 := by
  obtain ⟨fd, F, b⟩ := X.e_BadName
  exact ⟨T.x_BadName, fd, _, init1_fn F sc_BadName___init__ rfl rfl (fun cdv A outer s H E => pss_one (ps_ost (pv 0) (pv 1))), b⟩
theorem o_BadNumber (X : Defs K mg a_BadAim i_BadAim a_BadBody i_BadBody a_BadLetter i_BadLetter a_BadName i_BadName a_BadNumber i_BadNumber a_BadRow i_BadRow a_BadSaying i_BadSaying a_BadText i_BadText a_NoName i_NoName a_NotKept i_NotKept a_NotThere i_NotThere a_TakenName i_TakenName a_TooMany i_TooMany a_Unlike i_Unlike a_NothingToRedo a_NothingToUndo a_ForumError) (T : Txt K mg a_BadAim i_BadAim a_BadBody i_BadBody a_BadLetter i_BadLetter a_BadName i_BadName a_BadNumber i_BadNumber a_BadRow i_BadRow a_BadSaying i_BadSaying a_BadText i_BadText a_NoName i_NoName a_NotKept i_NotKept a_NotThere i_NotThere a_TakenName i_TakenName a_TooMany i_TooMany a_Unlike i_Unlike a_NothingToRedo a_NothingToUndo a_ForumError) : OwnI P w K mg base "BadNumber" a_BadNumber i_BadNumber ["what", "number"] 1 := by
  obtain ⟨fd, F, b⟩ := X.e_BadNumber
  exact ⟨T.x_BadNumber, fd, _, init2_fn F sc_BadNumber___init__ rfl rfl (fun cdv A outer s H E => pss_cons (ps_ost (pv 0) (pv 1)) (pss_one (ps_ost (pv 0) (pv 2)))), b⟩
theorem o_BadRow (X : Defs K mg a_BadAim i_BadAim a_BadBody i_BadBody a_BadLetter i_BadLetter a_BadName i_BadName a_BadNumber i_BadNumber a_BadRow i_BadRow a_BadSaying i_BadSaying a_BadText i_BadText a_NoName i_NoName a_NotKept i_NotKept a_NotThere i_NotThere a_TakenName i_TakenName a_TooMany i_TooMany a_Unlike i_Unlike a_NothingToRedo a_NothingToUndo a_ForumError) (T : Txt K mg a_BadAim i_BadAim a_BadBody i_BadBody a_BadLetter i_BadLetter a_BadName i_BadName a_BadNumber i_BadNumber a_BadRow i_BadRow a_BadSaying i_BadSaying a_BadText i_BadText a_NoName i_NoName a_NotKept i_NotKept a_NotThere i_NotThere a_TakenName i_TakenName a_TooMany i_TooMany a_Unlike i_Unlike a_NothingToRedo a_NothingToUndo a_ForumError) : OwnI P w K mg base "BadRow" a_BadRow i_BadRow ["what", "row"] 1 := by
  obtain ⟨fd, F, b⟩ := X.e_BadRow
  exact ⟨T.x_BadRow, fd, _, init2_fn F sc_BadRow___init__ rfl rfl (fun cdv A outer s H E => pss_cons (ps_ost (pv 0) (pv 1)) (pss_one (ps_ost (pv 0) (pv 2)))), b⟩
theorem o_BadSaying (X : Defs K mg a_BadAim i_BadAim a_BadBody i_BadBody a_BadLetter i_BadLetter a_BadName i_BadName a_BadNumber i_BadNumber a_BadRow i_BadRow a_BadSaying i_BadSaying a_BadText i_BadText a_NoName i_NoName a_NotKept i_NotKept a_NotThere i_NotThere a_TakenName i_TakenName a_TooMany i_TooMany a_Unlike i_Unlike a_NothingToRedo a_NothingToUndo a_ForumError) (T : Txt K mg a_BadAim i_BadAim a_BadBody i_BadBody a_BadLetter i_BadLetter a_BadName i_BadName a_BadNumber i_BadNumber a_BadRow i_BadRow a_BadSaying i_BadSaying a_BadText i_BadText a_NoName i_NoName a_NotKept i_NotKept a_NotThere i_NotThere a_TakenName i_TakenName a_TooMany i_TooMany a_Unlike i_Unlike a_NothingToRedo a_NothingToUndo a_ForumError) : OwnI P w K mg base "BadSaying" a_BadSaying i_BadSaying ["saying"] 1 := by
  obtain ⟨fd, F, b⟩ := X.e_BadSaying
  exact ⟨T.x_BadSaying, fd, _, init1_fn F sc_BadSaying___init__ rfl rfl (fun cdv A outer s H E => pss_one (ps_ost (pv 0) (pv 1))), b⟩
theorem o_BadText (X : Defs K mg a_BadAim i_BadAim a_BadBody i_BadBody a_BadLetter i_BadLetter a_BadName i_BadName a_BadNumber i_BadNumber a_BadRow i_BadRow a_BadSaying i_BadSaying a_BadText i_BadText a_NoName i_NoName a_NotKept i_NotKept a_NotThere i_NotThere a_TakenName i_TakenName a_TooMany i_TooMany a_Unlike i_Unlike a_NothingToRedo a_NothingToUndo a_ForumError) (T : Txt K mg a_BadAim i_BadAim a_BadBody i_BadBody a_BadLetter i_BadLetter a_BadName i_BadName a_BadNumber i_BadNumber a_BadRow i_BadRow a_BadSaying i_BadSaying a_BadText i_BadText a_NoName i_NoName a_NotKept i_NotKept a_NotThere i_NotThere a_TakenName i_TakenName a_TooMany i_TooMany a_Unlike i_Unlike a_NothingToRedo a_NothingToUndo a_ForumError) : OwnI P w K mg base "BadText" a_BadText i_BadText ["line", "word"] 1 := by
  obtain ⟨fd, F, b⟩ := X.e_BadText
  exact ⟨T.x_BadText, fd, _, init2_fn F sc_BadText___init__ rfl rfl (fun cdv A outer s H E => pss_cons (ps_ost (pv 0) (pv 1)) (pss_one (ps_ost (pv 0) (pv 2)))), b⟩
theorem o_NoName (X : Defs K mg a_BadAim i_BadAim a_BadBody i_BadBody a_BadLetter i_BadLetter a_BadName i_BadName a_BadNumber i_BadNumber a_BadRow i_BadRow a_BadSaying i_BadSaying a_BadText i_BadText a_NoName i_NoName a_NotKept i_NotKept a_NotThere i_NotThere a_TakenName i_TakenName a_TooMany i_TooMany a_Unlike i_Unlike a_NothingToRedo a_NothingToUndo a_ForumError) (T : Txt K mg a_BadAim i_BadAim a_BadBody i_BadBody a_BadLetter i_BadLetter a_BadName i_BadName a_BadNumber i_BadNumber a_BadRow i_BadRow a_BadSaying i_BadSaying a_BadText i_BadText a_NoName i_NoName a_NotKept i_NotKept a_NotThere i_NotThere a_TakenName i_TakenName a_TooMany i_TooMany a_Unlike i_Unlike a_NothingToRedo a_NothingToUndo a_ForumError) : OwnI P w K mg base "NoName" a_NoName i_NoName ["name"] 1 := by
  obtain ⟨fd, F, b⟩ := X.e_NoName
  exact ⟨T.x_NoName, fd, _, init1_fn F sc_NoName___init__ rfl rfl (fun cdv A outer s H E => pss_one (ps_ost (pv 0) (pv 1))), b⟩
theorem o_NotKept (X : Defs K mg a_BadAim i_BadAim a_BadBody i_BadBody a_BadLetter i_BadLetter a_BadName i_BadName a_BadNumber i_BadNumber a_BadRow i_BadRow a_BadSaying i_BadSaying a_BadText i_BadText a_NoName i_NoName a_NotKept i_NotKept a_NotThere i_NotThere a_TakenName i_TakenName a_TooMany i_TooMany a_Unlike i_Unlike a_NothingToRedo a_NothingToUndo a_ForumError) (T : Txt K mg a_BadAim i_BadAim a_BadBody i_BadBody a_BadLetter i_BadLetter a_BadName i_BadName a_BadNumber i_BadNumber a_BadRow i_BadRow a_BadSaying i_BadSaying a_BadText i_BadText a_NoName i_NoName a_NotKept i_NotKept a_NotThere i_NotThere a_TakenName i_TakenName a_TooMany i_TooMany a_Unlike i_Unlike a_NothingToRedo a_NothingToUndo a_ForumError) : OwnI P w K mg base "NotKept" a_NotKept i_NotKept ["promise", "witness"] 1 := by
  obtain ⟨fd, F, b⟩ := X.e_NotKept
  exact ⟨T.x_NotKept, fd, _, init2_fn F sc_NotKept___init__ rfl rfl (fun cdv A outer s H E => pss_cons (ps_ost (pv 0) (pv 1)) (pss_one (ps_ost (pv 0) (pv 2)))), b⟩
theorem o_NotThere (X : Defs K mg a_BadAim i_BadAim a_BadBody i_BadBody a_BadLetter i_BadLetter a_BadName i_BadName a_BadNumber i_BadNumber a_BadRow i_BadRow a_BadSaying i_BadSaying a_BadText i_BadText a_NoName i_NoName a_NotKept i_NotKept a_NotThere i_NotThere a_TakenName i_TakenName a_TooMany i_TooMany a_Unlike i_Unlike a_NothingToRedo a_NothingToUndo a_ForumError) (T : Txt K mg a_BadAim i_BadAim a_BadBody i_BadBody a_BadLetter i_BadLetter a_BadName i_BadName a_BadNumber i_BadNumber a_BadRow i_BadRow a_BadSaying i_BadSaying a_BadText i_BadText a_NoName i_NoName a_NotKept i_NotKept a_NotThere i_NotThere a_TakenName i_TakenName a_TooMany i_TooMany a_Unlike i_Unlike a_NothingToRedo a_NothingToUndo a_ForumError) : OwnI P w K mg base "NotThere" a_NotThere i_NotThere ["what"] 1 := by
  obtain ⟨fd, F, b⟩ := X.e_NotThere
  exact ⟨T.x_NotThere, fd, _, init1_fn F sc_NotThere___init__ rfl rfl (fun cdv A outer s H E => pss_one (ps_ost (pv 0) (pv 1))), b⟩
theorem o_TakenName (X : Defs K mg a_BadAim i_BadAim a_BadBody i_BadBody a_BadLetter i_BadLetter a_BadName i_BadName a_BadNumber i_BadNumber a_BadRow i_BadRow a_BadSaying i_BadSaying a_BadText i_BadText a_NoName i_NoName a_NotKept i_NotKept a_NotThere i_NotThere a_TakenName i_TakenName a_TooMany i_TooMany a_Unlike i_Unlike a_NothingToRedo a_NothingToUndo a_ForumError) (T : Txt K mg a_BadAim i_BadAim a_BadBody i_BadBody a_BadLetter i_BadLetter a_BadName i_BadName a_BadNumber i_BadNumber a_BadRow i_BadRow a_BadSaying i_BadSaying a_BadText i_BadText a_NoName i_NoName a_NotKept i_NotKept a_NotThere i_NotThere a_TakenName i_TakenName a_TooMany i_TooMany a_Unlike i_Unlike a_NothingToRedo a_NothingToUndo a_ForumError) : OwnI P w K mg base "TakenName" a_TakenName i_TakenName ["name"] 1 := by
  obtain ⟨fd, F, b⟩ := X.e_TakenName
  exact ⟨T.x_TakenName, fd, _, init1_fn F sc_TakenName___init__ rfl rfl (fun cdv A outer s H E => pss_one (ps_ost (pv 0) (pv 1))), b⟩
theorem o_TooMany (X : Defs K mg a_BadAim i_BadAim a_BadBody i_BadBody a_BadLetter i_BadLetter a_BadName i_BadName a_BadNumber i_BadNumber a_BadRow i_BadRow a_BadSaying i_BadSaying a_BadText i_BadText a_NoName i_NoName a_NotKept i_NotKept a_NotThere i_NotThere a_TakenName i_TakenName a_TooMany i_TooMany a_Unlike i_Unlike a_NothingToRedo a_NothingToUndo a_ForumError) (T : Txt K mg a_BadAim i_BadAim a_BadBody i_BadBody a_BadLetter i_BadLetter a_BadName i_BadName a_BadNumber i_BadNumber a_BadRow i_BadRow a_BadSaying i_BadSaying a_BadText i_BadText a_NoName i_NoName a_NotKept i_NotKept a_NotThere i_NotThere a_TakenName i_TakenName a_TooMany i_TooMany a_Unlike i_Unlike a_NothingToRedo a_NothingToUndo a_ForumError) : OwnI P w K mg base "TooMany" a_TooMany i_TooMany ["what", "many", "limit"] 1 := by
  obtain ⟨fd, F, b⟩ := X.e_TooMany
  exact ⟨T.x_TooMany, fd, _, init3_fn F sc_TooMany___init__ rfl rfl (fun cdv A outer s H E => pss_cons (ps_ost (pv 0) (pv 1)) (pss_cons (ps_ost (pv 0) (pv 2)) (pss_one (ps_ost (pv 0) (pv 3))))), b⟩
theorem o_Unlike (X : Defs K mg a_BadAim i_BadAim a_BadBody i_BadBody a_BadLetter i_BadLetter a_BadName i_BadName a_BadNumber i_BadNumber a_BadRow i_BadRow a_BadSaying i_BadSaying a_BadText i_BadText a_NoName i_NoName a_NotKept i_NotKept a_NotThere i_NotThere a_TakenName i_TakenName a_TooMany i_TooMany a_Unlike i_Unlike a_NothingToRedo a_NothingToUndo a_ForumError) (T : Txt K mg a_BadAim i_BadAim a_BadBody i_BadBody a_BadLetter i_BadLetter a_BadName i_BadName a_BadNumber i_BadNumber a_BadRow i_BadRow a_BadSaying i_BadSaying a_BadText i_BadText a_NoName i_NoName a_NotKept i_NotKept a_NotThere i_NotThere a_TakenName i_TakenName a_TooMany i_TooMany a_Unlike i_Unlike a_NothingToRedo a_NothingToUndo a_ForumError) : OwnI P w K mg base "Unlike" a_Unlike i_Unlike ["what"] 1 := by
  obtain ⟨fd, F, b⟩ := X.e_Unlike
  exact ⟨T.x_Unlike, fd, _, init1_fn F sc_Unlike___init__ rfl rfl (fun cdv A outer s H E => pss_one (ps_ost (pv 0) (pv 1))), b⟩
/-- good data, looked up -/
def gdB (k n : Nat) (d : D) : Bool := d.plain && (d.py.canLay0 && (d.py.showable && (decide (d.py.depth ≤ k) && decide (d.w ≤ n))))
theorem gd_of {k n : Nat} {d : D} (h : gdB k n d = true) : GD k n d := by
  obtain ⟨h1, h⟩ := Bool.and_eq_true_iff.mp h
  obtain ⟨h2, h⟩ := Bool.and_eq_true_iff.mp h
  obtain ⟨h3, h⟩ := Bool.and_eq_true_iff.mp h
  obtain ⟨h4, h5⟩ := Bool.and_eq_true_iff.mp h
  exact ⟨h1, h2, h3, of_decide_eq_true h4, of_decide_eq_true h5⟩
/-! ### drawn things -/
abbrev m_law_pick : Nat := 1
abbrev pre_law_pick : List D → Prop
  | [some_] => ∃ ds, some_.its = some ds ∧ 0 < ds.length ∧ ds.length < 1000
  | _ => False
abbrev post_law_pick : List D → D → Prop
  | [some_], r => ∃ ds, some_.its = some ds ∧ r ∈ ds
  | _, _ => False
def u_law_pick (T : Txt K mg a_BadAim i_BadAim a_BadBody i_BadBody a_BadLetter i_BadLetter a_BadName i_BadName a_BadNumber i_BadNumber a_BadRow i_BadRow a_BadSaying i_BadSaying a_BadText i_BadText a_NoName i_NoName a_NotKept i_NotKept a_NotThere i_NotThere a_TakenName i_TakenName a_TooMany i_TooMany a_Unlike i_Unlike a_NothingToRedo a_NothingToUndo a_ForumError) : WS K L2.E0 := (WS.ret (WM.up (WE.op O2.ix (WE.var 1) (WE.callG m_law_draw pre_law_draw post_law_draw 0 (WA.cons (WE.cb ON.len (WA.cons (WE.var 1) WA.nil)) WA.nil)))))
theorem v_law_pick {some_ : D} (T : Txt K mg a_BadAim i_BadAim a_BadBody i_BadBody a_BadLetter i_BadLetter a_BadName i_BadName a_BadNumber i_BadNumber a_BadRow i_BadRow a_BadSaying i_BadSaying a_BadText i_BadText a_NoName i_NoName a_NotKept i_NotKept a_NotThere i_NotThere a_TakenName i_TakenName a_TooMany i_TooMany a_Unlike i_Unlike a_NothingToRedo a_NothingToUndo a_ForumError) (hp : ∃ ds, some_.its = some ds ∧ 0 < ds.length ∧ ds.length < 1000) : (u_law_pick T).w noX [.pen, .dat some_] (retW fun r => ∃ ds, some_.its = some ds ∧ r ∈ ds) := by
  unfold u_law_pick
  walk_at "w"
  try simp only [pre_law_draw, post_law_draw]
  try walk_at "w"
  try simp only [pre_law_draw, post_law_draw]
  try walk_at "w"


  obtain ⟨ds, he, h0, h1⟩ := hp
  refine ⟨ds.length, its_len he, ⟨by omega, by omega⟩, ?_⟩
  rintro d ⟨k, rfl, k0, k1⟩
  exact ix_its he k0 k1 fun x hx => ⟨ds, he, hx⟩
theorem c_law_pick (X : Defs K mg a_BadAim i_BadAim a_BadBody i_BadBody a_BadLetter i_BadLetter a_BadName i_BadName a_BadNumber i_BadNumber a_BadRow i_BadRow a_BadSaying i_BadSaying a_BadText i_BadText a_NoName i_NoName a_NotKept i_NotKept a_NotThere i_NotThere a_TakenName i_TakenName a_TooMany i_TooMany a_Unlike i_Unlike a_NothingToRedo a_NothingToUndo a_ForumError) (T : Txt K mg a_BadAim i_BadAim a_BadBody i_BadBody a_BadLetter i_BadLetter a_BadName i_BadName a_BadNumber i_BadNumber a_BadRow i_BadRow a_BadSaying i_BadSaying a_BadText i_BadText a_NoName i_NoName a_NotKept i_NotKept a_NotThere i_NotThere a_TakenName i_TakenName a_TooMany i_TooMany a_Unlike i_Unlike a_NothingToRedo a_NothingToUndo a_ForumError) : Cal P w K mg base "_law_pick" 2 ["pen", "some"] [] (SpG K m_law_pick pre_law_pick post_law_pick) := by
  have c_law_draw := c_law_draw (P := P) (w := w) (base := base) X T
  refine cal_WG (N := N_law_pick) (u_law_pick T) X.d_law_pick sc_law_pick (fun ds h => ?_) (fun f cdv A outer s H E hr ng => ⟨_, (pss_one (ps_ret (pe_ix (ix_seqk (K := K)) (pv 1) (peg_cal c_law_draw hr (by decide) ng rfl (pa_cons (pv 0) (pa_cons (pe_callB (call_lenk (K := K)) (by rfl) T.b_len (by decide +kernel) (pa_cons (pv 1) pa_nil)) pa_nil))) (fun _ _ => rfl)))), rfl⟩) (Nat.le_of_eq rfl) fun ds hp => ?_
  · match ds, h with
    | [_], _ => rfl
  · match ds, hp with
    | [some_], hp => exact w_at (u_law_pick T) (v_law_pick T hp) rfl rfl rfl
abbrev m_law_thing : Nat := 1
abbrev pre_law_thing : List D → Prop
  | [] => True
  | _ => False
abbrev post_law_thing : List D → D → Prop
  | [], r => GD 3 5000 r
  | _, _ => False
def u_law_thing (T : Txt K mg a_BadAim i_BadAim a_BadBody i_BadBody a_BadLetter i_BadLetter a_BadName i_BadName a_BadNumber i_BadNumber a_BadRow i_BadRow a_BadSaying i_BadSaying a_BadText i_BadText a_NoName i_NoName a_NotKept i_NotKept a_NotThere i_NotThere a_TakenName i_TakenName a_TooMany i_TooMany a_Unlike i_Unlike a_NothingToRedo a_NothingToUndo a_ForumError) : WS K L2.E0 := (WS.ret (WM.up (WE.callG m_law_pick pre_law_pick post_law_pick 0 (WA.cons (WE.lst (WA.cons WE.non (WA.cons (WE.int 0) (WA.cons (WE.neg (WE.int 1)) (WA.cons (WE.bl true) (WA.cons (WE.str "") (WA.cons (WE.str "a b") (WA.cons (WE.tup (WA.cons (WE.int 1) (WA.cons (WE.str "x") WA.nil))) (WA.cons (WE.lst (WA.cons (WE.int 1) (WA.cons (WE.lst (WA.cons (WE.int 2) WA.nil)) WA.nil))) (WA.cons (WE.lst WA.nil) (WA.cons (WE.op (O2.intC CPow fun i j => i ^ j.toNat) (WE.int 10) (WE.int 40)) (WA.cons (WE.tup (WA.cons (WE.str "k") (WA.cons WE.non WA.nil))) (WA.cons (WE.int 7) WA.nil))))))))))))) WA.nil))))
theorem v_law_thing (T : Txt K mg a_BadAim i_BadAim a_BadBody i_BadBody a_BadLetter i_BadLetter a_BadName i_BadName a_BadNumber i_BadNumber a_BadRow i_BadRow a_BadSaying i_BadSaying a_BadText i_BadText a_NoName i_NoName a_NotKept i_NotKept a_NotThere i_NotThere a_TakenName i_TakenName a_TooMany i_TooMany a_Unlike i_Unlike a_NothingToRedo a_NothingToUndo a_ForumError) (hp : True) : (u_law_thing T).w noX [.pen] (retW fun r => GD 3 5000 r) := by
  unfold u_law_thing
  walk_at "w"
  try simp only [pre_law_pick, post_law_pick]
  try walk_at "w"
  try simp only [pre_law_pick, post_law_pick]
  try walk_at "w"


  refine ⟨by decide, by decide, by decide, by decide, ⟨by decide, by decide⟩, by decide, by decide, ⟨by decide, by decide⟩, fun d hd => ?_⟩
  simp only [List.mem_cons, List.not_mem_nil, or_false] at hd
  rcases hd with rfl | rfl | rfl | rfl | rfl | rfl | rfl | rfl | rfl | rfl | rfl | rfl <;> exact gd_of (by decide +kernel)
theorem c_law_thing (X : Defs K mg a_BadAim i_BadAim a_BadBody i_BadBody a_BadLetter i_BadLetter a_BadName i_BadName a_BadNumber i_BadNumber a_BadRow i_BadRow a_BadSaying i_BadSaying a_BadText i_BadText a_NoName i_NoName a_NotKept i_NotKept a_NotThere i_NotThere a_TakenName i_TakenName a_TooMany i_TooMany a_Unlike i_Unlike a_NothingToRedo a_NothingToUndo a_ForumError) (T : Txt K mg a_BadAim i_BadAim a_BadBody i_BadBody a_BadLetter i_BadLetter a_BadName i_BadName a_BadNumber i_BadNumber a_BadRow i_BadRow a_BadSaying i_BadSaying a_BadText i_BadText a_NoName i_NoName a_NotKept i_NotKept a_NotThere i_NotThere a_TakenName i_TakenName a_TooMany i_TooMany a_Unlike i_Unlike a_NothingToRedo a_NothingToUndo a_ForumError) : Cal P w K mg base "_law_thing" 3 ["pen"] [] (SpG K m_law_thing pre_law_thing post_law_thing) := by
  have c_law_pick := c_law_pick (P := P) (w := w) (base := base) X T
  refine cal_WG (N := N_law_thing) (u_law_thing T) X.d_law_thing sc_law_thing (fun ds h => ?_) (fun f cdv A outer s H E hr ng => ⟨_, (pss_one (ps_ret (peg_cal c_law_pick hr (by decide) ng rfl (pa_cons (pv 0) (pa_cons (pe_lst (pa_cons pe_non (pa_cons pe_int (pa_cons (pe_un un_neg pe_int) (pa_cons pe_bl (pa_cons pe_str (pa_cons pe_str (pa_cons (pe_tup (pa_cons pe_int (pa_cons pe_str pa_nil))) (pa_cons (pe_lst (pa_cons pe_int (pa_cons (pe_lst (pa_cons pe_int pa_nil)) pa_nil))) (pa_cons (pe_lst pa_nil) (pa_cons (pe_op op_pow pe_int pe_int) (pa_cons (pe_tup (pa_cons pe_str (pa_cons pe_non pa_nil))) (pa_cons pe_int pa_nil))))))))))))) pa_nil))))), rfl⟩) (Nat.le_of_eq rfl) fun ds hp => ?_
  · match ds, h with
    | [], _ => rfl
  · match ds, hp with
    | [], hp => exact w_at (u_law_thing T) (v_law_thing T hp) rfl rfl rfl
theorem fld_at {nm : Str} {C i : Addr} {ns ns0 : List Str} {ds : List D} {f : Str} {y : D} {φ : D → Prop} (x : OwnC K mg nm C i ns) (hf : f ∈ ns) (l : lookD ns0 ds f = some y) (k : φ y) :
    ∃ C' ns' ds', D.err C ns0 ds = D.err C' ns' ds' ∧ XfC K C' ∧ PySem.W.findIn K (.ref C') f = some none ∧ ∃ x, lookD ns' ds' f = some x ∧ φ x := ⟨_, _, _, rfl, x.xf, x.no _ hf, _, l, k⟩
local macro_rules | `(tactic| walk_at "fld") => `(tactic| first
  | refine fld_at (by assumption) (by simp) rfl ?_
  | refine ⟨by decide, ?_⟩)
theorem eqv_self {k n : Nat} {d : D} (g : GD k n d) : d.eqv d = true := PySem.SeqAt.eqv_refl _ g.lay
theorem ne_self {k n : Nat} {d : D} (g : GD k n d) : (!d.eqv d) = false := by rw [eqv_self g]; rfl
theorem ne_case {k n : Nat} {d : D} {P Q : Prop} (g : GD k n d) (hk : k ≤ 64) (h : Q) : d.ok = true ∧ d.ok = true ∧ ((!d.eqv d) = true → P) ∧ ((!d.eqv d) = false → Q) :=
  ⟨g.ok hk, g.ok hk, (fun z => by rw [ne_self g] at z; cases z), fun _ => h⟩
abbrev pre_law_fields_right : List D → Prop
  | [one_, other_] => GD 3 5000 one_ ∧ GD 3 5000 other_
  | _ => False
abbrev post_law_fields_right : List D → D → Prop
  | [one_, other_], r => r = .bl true
  | _, _ => False
def u_law_fields_right (T : Txt K mg a_BadAim i_BadAim a_BadBody i_BadBody a_BadLetter i_BadLetter a_BadName i_BadName a_BadNumber i_BadNumber a_BadRow i_BadRow a_BadSaying i_BadSaying a_BadText i_BadText a_NoName i_NoName a_NotKept i_NotKept a_NotThere i_NotThere a_TakenName i_TakenName a_TooMany i_TooMany a_Unlike i_Unlike a_NothingToRedo a_NothingToUndo a_ForumError) : WS K L2.E0 := (WS.seq (WS.asgT (WG.seq (WGs.cons (WG.name 2) (WGs.cons (WG.name 3) (WGs.cons (WG.name 4) (WGs.cons (WG.name 5) WGs.nil))))) (WE.tup (WA.cons (WE.mkE a_BadText ["line", "word"] (WA.cons (WE.var 0) (WA.cons (WE.var 1) WA.nil)) T.x_BadText.ox T.x_BadText.no) (WA.cons (WE.mkE a_BadNumber ["what", "number"] (WA.cons (WE.var 0) (WA.cons (WE.var 1) WA.nil)) T.x_BadNumber.ox T.x_BadNumber.no) (WA.cons (WE.mkE a_BadRow ["what", "row"] (WA.cons (WE.var 0) (WA.cons (WE.var 1) WA.nil)) T.x_BadRow.ox T.x_BadRow.no) (WA.cons (WE.mkE a_NotKept ["promise", "witness"] (WA.cons (WE.var 0) (WA.cons (WE.var 1) WA.nil)) T.x_NotKept.ox T.x_NotKept.no) WA.nil))))))
 (WS.seq (WS.ifS (WT.tst (WE.op O2.ne (WE.lst (WA.cons (WE.fldX "line" (WE.var 2)) (WA.cons (WE.fldX "word" (WE.var 2)) (WA.cons (WE.fldX "what" (WE.var 3)) (WA.cons (WE.fldX "number" (WE.var 3)) WA.nil))))) (WE.lst (WA.cons (WE.var 0) (WA.cons (WE.var 1) (WA.cons (WE.var 0) (WA.cons (WE.var 1) WA.nil)))))))
 (WS.ret (WM.up (WE.bl false)))
 WS.next)
 (WS.seq (WS.ifS (WT.tst (WE.op O2.ne (WE.lst (WA.cons (WE.fldX "what" (WE.var 4)) (WA.cons (WE.fldX "row" (WE.var 4)) (WA.cons (WE.fldX "promise" (WE.var 5)) (WA.cons (WE.fldX "witness" (WE.var 5)) WA.nil))))) (WE.lst (WA.cons (WE.var 0) (WA.cons (WE.var 1) (WA.cons (WE.var 0) (WA.cons (WE.var 1) WA.nil)))))))
 (WS.ret (WM.up (WE.bl false)))
 WS.next)
 (WS.seq (WS.asg 6 (WM.up (WE.mkE a_TooMany ["what", "many", "limit"] (WA.cons (WE.var 0) (WA.cons (WE.var 1) (WA.cons (WE.int 5) WA.nil))) T.x_TooMany.ox T.x_TooMany.no)))
 (WS.seq (WS.ifS (WT.tst (WE.op O2.ne (WE.lst (WA.cons (WE.fldX "what" (WE.var 6)) (WA.cons (WE.fldX "many" (WE.var 6)) (WA.cons (WE.fldX "limit" (WE.var 6)) WA.nil)))) (WE.lst (WA.cons (WE.var 0) (WA.cons (WE.var 1) (WA.cons (WE.int 5) WA.nil))))))
 (WS.ret (WM.up (WE.bl false)))
 WS.next)
 (WS.seq (WS.ifS (WT.tst (WE.op O2.ne (WE.lst (WA.cons (WE.fldX "name" (WE.mkE a_BadName ["name"] (WA.cons (WE.var 0) WA.nil) T.x_BadName.ox T.x_BadName.no)) (WA.cons (WE.fldX "saying" (WE.mkE a_BadSaying ["saying"] (WA.cons (WE.var 0) WA.nil) T.x_BadSaying.ox T.x_BadSaying.no)) (WA.cons (WE.fldX "index" (WE.mkE a_BadLetter ["index"] (WA.cons (WE.var 0) WA.nil) T.x_BadLetter.ox T.x_BadLetter.no)) (WA.cons (WE.fldX "body" (WE.mkE a_BadBody ["body"] (WA.cons (WE.var 0) WA.nil) T.x_BadBody.ox T.x_BadBody.no)) (WA.cons (WE.fldX "index" (WE.mkE a_BadAim ["index"] (WA.cons (WE.var 0) WA.nil) T.x_BadAim.ox T.x_BadAim.no)) WA.nil)))))) (WE.op O2.mul (WE.lst (WA.cons (WE.var 0) WA.nil)) (WE.int 5))))
 (WS.ret (WM.up (WE.bl false)))
 WS.next)
 (WS.ret (WM.up (WE.op O2.eq (WE.lst (WA.cons (WE.fldX "name" (WE.mkE a_NoName ["name"] (WA.cons (WE.var 0) WA.nil) T.x_NoName.ox T.x_NoName.no)) (WA.cons (WE.fldX "name" (WE.mkE a_TakenName ["name"] (WA.cons (WE.var 0) WA.nil) T.x_TakenName.ox T.x_TakenName.no)) (WA.cons (WE.fldX "what" (WE.mkE a_Unlike ["what"] (WA.cons (WE.var 0) WA.nil) T.x_Unlike.ox T.x_Unlike.no)) (WA.cons (WE.fldX "what" (WE.mkE a_NotThere ["what"] (WA.cons (WE.var 0) WA.nil) T.x_NotThere.ox T.x_NotThere.no)) WA.nil))))) (WE.op O2.mul (WE.lst (WA.cons (WE.var 0) WA.nil)) (WE.int 4)))))))))))
theorem v_law_fields_right {one_ other_ : D} (T : Txt K mg a_BadAim i_BadAim a_BadBody i_BadBody a_BadLetter i_BadLetter a_BadName i_BadName a_BadNumber i_BadNumber a_BadRow i_BadRow a_BadSaying i_BadSaying a_BadText i_BadText a_NoName i_NoName a_NotKept i_NotKept a_NotThere i_NotThere a_TakenName i_TakenName a_TooMany i_TooMany a_Unlike i_Unlike a_NothingToRedo a_NothingToUndo a_ForumError) (hp : GD 3 5000 one_ ∧ GD 3 5000 other_) : (u_law_fields_right T).w noX [.dat one_, .dat other_, .un, .un, .un, .un, .un] (retW fun r => r = .bl true) := by
  unfold u_law_fields_right

  have x_BadText := T.x_BadText
  have x_BadName := T.x_BadName
  have x_BadNumber := T.x_BadNumber
  have x_BadSaying := T.x_BadSaying
  have x_BadLetter := T.x_BadLetter
  have x_BadBody := T.x_BadBody
  have x_BadAim := T.x_BadAim
  have x_BadRow := T.x_BadRow
  have x_NoName := T.x_NoName
  have x_TakenName := T.x_TakenName
  have x_Unlike := T.x_Unlike
  have x_NotThere := T.x_NotThere
  have x_TooMany := T.x_TooMany
  have x_NotKept := T.x_NotKept
  walk_at "w"
  refine ⟨by decide, by decide, by decide, by decide, by decide, _, rfl, ?_⟩
  walk_at "w"
  have ga : ∀ l : List D, (∀ d ∈ l, d = one_ ∨ d = other_ ∨ d = .int 5) → GD 64 (l.length * 5002 + 3) (.lst l) := fun l h => (GDs.all (k := 3) (n := 5000) fun d hd => by
    rcases h d hd with rfl | rfl | rfl
    · exact hp.1
    · exact hp.2
    · exact gdI (by decide)).lst.mono (by decide) (Nat.le_refl _)
  have g4 := ga [one_, other_, one_, other_] (by simp)
  have g3 := ga [one_, other_, .int 5] (by simp)
  have g5 := ga [one_, one_, one_, one_, one_] (by simp)
  have g6 := ga [one_, one_, one_, one_] (by simp)
  iterate 4 walk_at "fld"
  refine ⟨by decide, by decide, ne_case g4 (by decide) ?_⟩
  iterate 4 walk_at "fld"
  refine ⟨by decide, by decide, ne_case g4 (by decide) ?_⟩
  refine ⟨by decide, ?_⟩
  iterate 3 walk_at "fld"
  refine ⟨by decide, by decide, ne_case g3 (by decide) ?_⟩
  iterate 10 walk_at "fld"
  refine ⟨by decide, by decide, ⟨by decide, by decide, by decide⟩, ne_case (d := .lst [one_, one_, one_, one_, one_]) g5 (by decide) ?_⟩
  iterate 8 walk_at "fld"
  refine ⟨by decide, by decide, ⟨by decide, by decide, by decide⟩, ?_⟩
  exact ⟨g6.ok, g6.ok, eqv_self g6⟩
theorem c_law_fields_right (X : Defs K mg a_BadAim i_BadAim a_BadBody i_BadBody a_BadLetter i_BadLetter a_BadName i_BadName a_BadNumber i_BadNumber a_BadRow i_BadRow a_BadSaying i_BadSaying a_BadText i_BadText a_NoName i_NoName a_NotKept i_NotKept a_NotThere i_NotThere a_TakenName i_TakenName a_TooMany i_TooMany a_Unlike i_Unlike a_NothingToRedo a_NothingToUndo a_ForumError) (T : Txt K mg a_BadAim i_BadAim a_BadBody i_BadBody a_BadLetter i_BadLetter a_BadName i_BadName a_BadNumber i_BadNumber a_BadRow i_BadRow a_BadSaying i_BadSaying a_BadText i_BadText a_NoName i_NoName a_NotKept i_NotKept a_NotThere i_NotThere a_TakenName i_TakenName a_TooMany i_TooMany a_Unlike i_Unlike a_NothingToRedo a_NothingToUndo a_ForumError) : Cal P w K mg base "_law_fields_right" 3 ["one", "other"] [] (SpP K pre_law_fields_right post_law_fields_right) := by
  have o_BadAim := o_BadAim (P := P) (w := w) (base := base) X T
  have o_BadBody := o_BadBody (P := P) (w := w) (base := base) X T
  have o_BadLetter := o_BadLetter (P := P) (w := w) (base := base) X T
  have o_BadName := o_BadName (P := P) (w := w) (base := base) X T
  have o_BadNumber := o_BadNumber (P := P) (w := w) (base := base) X T
  have o_BadRow := o_BadRow (P := P) (w := w) (base := base) X T
  have o_BadSaying := o_BadSaying (P := P) (w := w) (base := base) X T
  have o_BadText := o_BadText (P := P) (w := w) (base := base) X T
  have o_NoName := o_NoName (P := P) (w := w) (base := base) X T
  have o_NotKept := o_NotKept (P := P) (w := w) (base := base) X T
  have o_NotThere := o_NotThere (P := P) (w := w) (base := base) X T
  have o_TakenName := o_TakenName (P := P) (w := w) (base := base) X T
  have o_TooMany := o_TooMany (P := P) (w := w) (base := base) X T
  have o_Unlike := o_Unlike (P := P) (w := w) (base := base) X T
  refine cal_W (N := N_law_fields_right) (u_law_fields_right T) X.d_law_fields_right sc_law_fields_right (fun ds h => ?_) (fun f cdv A outer s H E hr ng => ⟨_, (pss_cons (ps_asg (pe_tup (pa_cons (pe_mkE o_BadText hr (by decide) rfl (pa_cons (pv 0) (pa_cons (pv 1) pa_nil))) (pa_cons (pe_mkE o_BadNumber hr (by decide) rfl (pa_cons (pv 0) (pa_cons (pv 1) pa_nil))) (pa_cons (pe_mkE o_BadRow hr (by decide) rfl (pa_cons (pv 0) (pa_cons (pv 1) pa_nil))) (pa_cons (pe_mkE o_NotKept hr (by decide) rfl (pa_cons (pv 0) (pa_cons (pv 1) pa_nil))) pa_nil))))) (pg_seqk (K := K) rfl (pgs_cons (pg_name (i := 2) sc_law_fields_right.nd rfl (Or.inl rfl)) (pgs_cons (pg_name (i := 3) sc_law_fields_right.nd rfl (Or.inl rfl)) (pgs_cons (pg_name (i := 4) sc_law_fields_right.nd rfl (Or.inl rfl)) (pgs_cons (pg_name (i := 5) sc_law_fields_right.nd rfl (Or.inl rfl)) pgs_nil))))))
 (pss_cons (ps_if (pt_cmpR (op_neDk (K := K) (Room.units hr)) (pe_lst (pa_cons (pe_fldX (pv 2)) (pa_cons (pe_fldX (pv 2)) (pa_cons (pe_fldX (pv 3)) (pa_cons (pe_fldX (pv 3)) pa_nil))))) (pe_lst (pa_cons (pv 0) (pa_cons (pv 1) (pa_cons (pv 0) (pa_cons (pv 1) pa_nil))))) (nomark _)) (pss_one (ps_ret pe_bl)) pss_nil)
 (pss_cons (ps_if (pt_cmpR (op_neDk (K := K) (Room.units hr)) (pe_lst (pa_cons (pe_fldX (pv 4)) (pa_cons (pe_fldX (pv 4)) (pa_cons (pe_fldX (pv 5)) (pa_cons (pe_fldX (pv 5)) pa_nil))))) (pe_lst (pa_cons (pv 0) (pa_cons (pv 1) (pa_cons (pv 0) (pa_cons (pv 1) pa_nil))))) (nomark _)) (pss_one (ps_ret pe_bl)) pss_nil)
 (pss_cons (ps_set (i := 6) sc_law_fields_right.nd rfl (Or.inl rfl) (pe_mkE o_TooMany hr (by decide) rfl (pa_cons (pv 0) (pa_cons (pv 1) (pa_cons pe_int pa_nil)))))
 (pss_cons (ps_if (pt_cmpR (op_neDk (K := K) (Room.units hr)) (pe_lst (pa_cons (pe_fldX (pv 6)) (pa_cons (pe_fldX (pv 6)) (pa_cons (pe_fldX (pv 6)) pa_nil)))) (pe_lst (pa_cons (pv 0) (pa_cons (pv 1) (pa_cons pe_int pa_nil)))) (nomark _)) (pss_one (ps_ret pe_bl)) pss_nil)
 (pss_cons (ps_if (pt_cmpR (op_neDk (K := K) (Room.units hr)) (pe_lst (pa_cons (pe_fldX (pe_mkE o_BadName hr (by decide) rfl (pa_cons (pv 0) pa_nil))) (pa_cons (pe_fldX (pe_mkE o_BadSaying hr (by decide) rfl (pa_cons (pv 0) pa_nil))) (pa_cons (pe_fldX (pe_mkE o_BadLetter hr (by decide) rfl (pa_cons (pv 0) pa_nil))) (pa_cons (pe_fldX (pe_mkE o_BadBody hr (by decide) rfl (pa_cons (pv 0) pa_nil))) (pa_cons (pe_fldX (pe_mkE o_BadAim hr (by decide) rfl (pa_cons (pv 0) pa_nil))) pa_nil)))))) (pe_op (op_mulUk (K := K)) (pe_lst (pa_cons (pv 0) pa_nil)) pe_int) (nomark _)) (pss_one (ps_ret pe_bl)) pss_nil)
 (pss_one (ps_ret (pe_cmpR (op_eqDk (K := K) (Room.units hr)) (pe_lst (pa_cons (pe_fldX (pe_mkE o_NoName hr (by decide) rfl (pa_cons (pv 0) pa_nil))) (pa_cons (pe_fldX (pe_mkE o_TakenName hr (by decide) rfl (pa_cons (pv 0) pa_nil))) (pa_cons (pe_fldX (pe_mkE o_Unlike hr (by decide) rfl (pa_cons (pv 0) pa_nil))) (pa_cons (pe_fldX (pe_mkE o_NotThere hr (by decide) rfl (pa_cons (pv 0) pa_nil))) pa_nil))))) (pe_op (op_mulUk (K := K)) (pe_lst (pa_cons (pv 0) pa_nil)) pe_int) (nomark _)))))))))), rfl⟩) rfl fun ds hp => ?_
  · match ds, h with
    | [_, _], _ => rfl
  · match ds, hp with
    | [one_, other_], hp => exact w_at (u_law_fields_right T) (v_law_fields_right T hp) rfl rfl rfl
abbrev pre_law_classes (a_BadAim i_BadAim a_BadBody i_BadBody a_BadLetter i_BadLetter a_BadName i_BadName a_BadNumber i_BadNumber a_BadRow i_BadRow a_BadSaying i_BadSaying a_BadText i_BadText a_NoName i_NoName a_NotKept i_NotKept a_NotThere i_NotThere a_TakenName i_TakenName a_TooMany i_TooMany a_Unlike i_Unlike a_NothingToRedo a_NothingToUndo a_ForumError : Addr) : List D → Prop
  | [error_] => ∃ (i : Nat) (C : Addr) (ns : List Str) (ds : List D), ([a_BadText, a_BadName, a_BadNumber, a_BadSaying, a_BadLetter, a_BadBody, a_BadAim, a_BadRow, a_NoName, a_TakenName, a_Unlike, a_NotThere, a_TooMany, a_NotKept, a_NothingToUndo, a_NothingToRedo] : List Addr)[i]? = some C ∧ error_ = .err C ns ds
  | _ => False
abbrev post_law_classes (a_BadAim i_BadAim a_BadBody i_BadBody a_BadLetter i_BadLetter a_BadName i_BadName a_BadNumber i_BadNumber a_BadRow i_BadRow a_BadSaying i_BadSaying a_BadText i_BadText a_NoName i_NoName a_NotKept i_NotKept a_NotThere i_NotThere a_TakenName i_TakenName a_TooMany i_TooMany a_Unlike i_Unlike a_NothingToRedo a_NothingToUndo a_ForumError : Addr) : List D → D → Prop
  | [error_], r => ∃ (i : Nat) (C : Addr) (ns : List Str) (ds : List D), ([a_BadText, a_BadName, a_BadNumber, a_BadSaying, a_BadLetter, a_BadBody, a_BadAim, a_BadRow, a_NoName, a_TakenName, a_Unlike, a_NotThere, a_TooMany, a_NotKept, a_NothingToUndo, a_NothingToRedo] : List Addr)[i]? = some C ∧ error_ = .err C ns ds ∧ r = .lst ((List.range 16).map fun j => .bl (decide (i = j)))
  | _, _ => False
def u_law_classes (T : Txt K mg a_BadAim i_BadAim a_BadBody i_BadBody a_BadLetter i_BadLetter a_BadName i_BadName a_BadNumber i_BadNumber a_BadRow i_BadRow a_BadSaying i_BadSaying a_BadText i_BadText a_NoName i_NoName a_NotKept i_NotKept a_NotThere i_NotThere a_TakenName i_TakenName a_TooMany i_TooMany a_Unlike i_Unlike a_NothingToRedo a_NothingToUndo a_ForumError) : WS K L2.E0 := (WS.seq (WS.asg 1 (WM.up (WE.lst (WA.cons (WE.isX (.ref a_BadText) (.ref a_BadText) (.own _) (WE.var 0)) (WA.cons (WE.isX (.ref a_BadName) (.ref a_BadName) (.own _) (WE.var 0)) (WA.cons (WE.isX (.ref a_BadNumber) (.ref a_BadNumber) (.own _) (WE.var 0)) WA.nil))))))
 (WS.seq (WS.asg 1 (WM.up (WE.op O2.add (WE.var 1) (WE.lst (WA.cons (WE.isX (.ref a_BadSaying) (.ref a_BadSaying) (.own _) (WE.var 0)) (WA.cons (WE.isX (.ref a_BadLetter) (.ref a_BadLetter) (.own _) (WE.var 0)) (WA.cons (WE.isX (.ref a_BadBody) (.ref a_BadBody) (.own _) (WE.var 0)) WA.nil)))))))
 (WS.seq (WS.asg 1 (WM.up (WE.op O2.add (WE.var 1) (WE.lst (WA.cons (WE.isX (.ref a_BadAim) (.ref a_BadAim) (.own _) (WE.var 0)) (WA.cons (WE.isX (.ref a_BadRow) (.ref a_BadRow) (.own _) (WE.var 0)) (WA.cons (WE.isX (.ref a_NoName) (.ref a_NoName) (.own _) (WE.var 0)) WA.nil)))))))
 (WS.seq (WS.asg 1 (WM.up (WE.op O2.add (WE.var 1) (WE.lst (WA.cons (WE.isX (.ref a_TakenName) (.ref a_TakenName) (.own _) (WE.var 0)) (WA.cons (WE.isX (.ref a_Unlike) (.ref a_Unlike) (.own _) (WE.var 0)) (WA.cons (WE.isX (.ref a_NotThere) (.ref a_NotThere) (.own _) (WE.var 0)) WA.nil)))))))
 (WS.seq (WS.asg 1 (WM.up (WE.op O2.add (WE.var 1) (WE.lst (WA.cons (WE.isX (.ref a_TooMany) (.ref a_TooMany) (.own _) (WE.var 0)) (WA.cons (WE.isX (.ref a_NotKept) (.ref a_NotKept) (.own _) (WE.var 0)) (WA.cons (WE.isX (.ref a_NothingToUndo) (.ref a_NothingToUndo) (.own _) (WE.var 0)) WA.nil)))))))
 (WS.ret (WM.up (WE.op O2.add (WE.var 1) (WE.lst (WA.cons (WE.isX (.ref a_NothingToRedo) (.ref a_NothingToRedo) (.own _) (WE.var 0)) WA.nil))))))))))
theorem v_law_classes {error_ : D} (T : Txt K mg a_BadAim i_BadAim a_BadBody i_BadBody a_BadLetter i_BadLetter a_BadName i_BadName a_BadNumber i_BadNumber a_BadRow i_BadRow a_BadSaying i_BadSaying a_BadText i_BadText a_NoName i_NoName a_NotKept i_NotKept a_NotThere i_NotThere a_TakenName i_TakenName a_TooMany i_TooMany a_Unlike i_Unlike a_NothingToRedo a_NothingToUndo a_ForumError) (hp : ∃ (i : Nat) (C : Addr) (ns : List Str) (ds : List D), ([a_BadText, a_BadName, a_BadNumber, a_BadSaying, a_BadLetter, a_BadBody, a_BadAim, a_BadRow, a_NoName, a_TakenName, a_Unlike, a_NotThere, a_TooMany, a_NotKept, a_NothingToUndo, a_NothingToRedo] : List Addr)[i]? = some C ∧ error_ = .err C ns ds) : (u_law_classes T).w noX [.dat error_, .un] (retW fun r => ∃ (i : Nat) (C : Addr) (ns : List Str) (ds : List D), ([a_BadText, a_BadName, a_BadNumber, a_BadSaying, a_BadLetter, a_BadBody, a_BadAim, a_BadRow, a_NoName, a_TakenName, a_Unlike, a_NotThere, a_TooMany, a_NotKept, a_NothingToUndo, a_NothingToRedo] : List Addr)[i]? = some C ∧ error_ = .err C ns ds ∧ r = .lst ((List.range 16).map fun j => .bl (decide (i = j)))) := by
  unfold u_law_classes

  obtain ⟨i, C, ns, ds, hi, rfl⟩ := hp
  have hC := T.et.ex.at C (List.mem_of_getElem? hi)
  have kt : ∀ {j : Nat} {D : Addr}, ([a_BadText, a_BadName, a_BadNumber, a_BadSaying, a_BadLetter, a_BadBody, a_BadAim, a_BadRow, a_NoName, a_TakenName, a_Unlike, a_NotThere, a_TooMany, a_NotKept, a_NothingToUndo, a_NothingToRedo] : List Addr)[j]? = some D → PySem.W.kitOne K (.ref C) (.ref D) = some (decide (i = j)) := fun h => T.et.kit hi h
  walk_at "w"
  refine isX_at hC (kt (j := 0) rfl) (isX_at hC (kt (j := 1) rfl) (isX_at hC (kt (j := 2) rfl) ⟨by decide, ?_⟩))
  refine isX_at hC (kt (j := 3) rfl) (isX_at hC (kt (j := 4) rfl) (isX_at hC (kt (j := 5) rfl) ⟨by decide, by decide, ?_⟩))
  refine isX_at hC (kt (j := 6) rfl) (isX_at hC (kt (j := 7) rfl) (isX_at hC (kt (j := 8) rfl) ⟨by decide, by decide, ?_⟩))
  refine isX_at hC (kt (j := 9) rfl) (isX_at hC (kt (j := 10) rfl) (isX_at hC (kt (j := 11) rfl) ⟨by decide, by decide, ?_⟩))
  refine isX_at hC (kt (j := 12) rfl) (isX_at hC (kt (j := 13) rfl) (isX_at hC (kt (j := 14) rfl) ⟨by decide, by decide, ?_⟩))
  refine isX_at hC (kt (j := 15) rfl) ⟨by decide, by decide, ?_⟩
  exact ⟨i, C, hi, ns, ds, rfl, rfl⟩
theorem c_law_classes (X : Defs K mg a_BadAim i_BadAim a_BadBody i_BadBody a_BadLetter i_BadLetter a_BadName i_BadName a_BadNumber i_BadNumber a_BadRow i_BadRow a_BadSaying i_BadSaying a_BadText i_BadText a_NoName i_NoName a_NotKept i_NotKept a_NotThere i_NotThere a_TakenName i_TakenName a_TooMany i_TooMany a_Unlike i_Unlike a_NothingToRedo a_NothingToUndo a_ForumError) (T : Txt K mg a_BadAim i_BadAim a_BadBody i_BadBody a_BadLetter i_BadLetter a_BadName i_BadName a_BadNumber i_BadNumber a_BadRow i_BadRow a_BadSaying i_BadSaying a_BadText i_BadText a_NoName i_NoName a_NotKept i_NotKept a_NotThere i_NotThere a_TakenName i_TakenName a_TooMany i_TooMany a_Unlike i_Unlike a_NothingToRedo a_NothingToUndo a_ForumError) : Cal P w K mg base "_law_classes" 1 ["error"] [] (SpP K (pre_law_classes a_BadAim i_BadAim a_BadBody i_BadBody a_BadLetter i_BadLetter a_BadName i_BadName a_BadNumber i_BadNumber a_BadRow i_BadRow a_BadSaying i_BadSaying a_BadText i_BadText a_NoName i_NoName a_NotKept i_NotKept a_NotThere i_NotThere a_TakenName i_TakenName a_TooMany i_TooMany a_Unlike i_Unlike a_NothingToRedo a_NothingToUndo a_ForumError) (post_law_classes a_BadAim i_BadAim a_BadBody i_BadBody a_BadLetter i_BadLetter a_BadName i_BadName a_BadNumber i_BadNumber a_BadRow i_BadRow a_BadSaying i_BadSaying a_BadText i_BadText a_NoName i_NoName a_NotKept i_NotKept a_NotThere i_NotThere a_TakenName i_TakenName a_TooMany i_TooMany a_Unlike i_Unlike a_NothingToRedo a_NothingToUndo a_ForumError)) := by
  refine cal_W (N := N_law_classes) (u_law_classes T) X.d_law_classes sc_law_classes (fun ds h => ?_) (fun f cdv A outer s H E hr ng => ⟨_, (pss_cons (ps_set (i := 1) sc_law_classes.nd rfl (Or.inl rfl) (pe_lst (pa_cons (pe_callB call_isX (by rfl) T.b_isinstance (by decide +kernel) (pa_cons (pv 0) (pa_cons (pe_globE (v := .ref a_BadText) rfl ⟨_, T.x_BadText.m, rfl⟩) pa_nil))) (pa_cons (pe_callB call_isX (by rfl) T.b_isinstance (by decide +kernel) (pa_cons (pv 0) (pa_cons (pe_globE (v := .ref a_BadName) rfl ⟨_, T.x_BadName.m, rfl⟩) pa_nil))) (pa_cons (pe_callB call_isX (by rfl) T.b_isinstance (by decide +kernel) (pa_cons (pv 0) (pa_cons (pe_globE (v := .ref a_BadNumber) rfl ⟨_, T.x_BadNumber.m, rfl⟩) pa_nil))) pa_nil)))))
 (pss_cons (ps_set (i := 1) sc_law_classes.nd rfl (Or.inl rfl) (pe_op (op_addUk (K := K)) (pv 1) (pe_lst (pa_cons (pe_callB call_isX (by rfl) T.b_isinstance (by decide +kernel) (pa_cons (pv 0) (pa_cons (pe_globE (v := .ref a_BadSaying) rfl ⟨_, T.x_BadSaying.m, rfl⟩) pa_nil))) (pa_cons (pe_callB call_isX (by rfl) T.b_isinstance (by decide +kernel) (pa_cons (pv 0) (pa_cons (pe_globE (v := .ref a_BadLetter) rfl ⟨_, T.x_BadLetter.m, rfl⟩) pa_nil))) (pa_cons (pe_callB call_isX (by rfl) T.b_isinstance (by decide +kernel) (pa_cons (pv 0) (pa_cons (pe_globE (v := .ref a_BadBody) rfl ⟨_, T.x_BadBody.m, rfl⟩) pa_nil))) pa_nil))))))
 (pss_cons (ps_set (i := 1) sc_law_classes.nd rfl (Or.inl rfl) (pe_op (op_addUk (K := K)) (pv 1) (pe_lst (pa_cons (pe_callB call_isX (by rfl) T.b_isinstance (by decide +kernel) (pa_cons (pv 0) (pa_cons (pe_globE (v := .ref a_BadAim) rfl ⟨_, T.x_BadAim.m, rfl⟩) pa_nil))) (pa_cons (pe_callB call_isX (by rfl) T.b_isinstance (by decide +kernel) (pa_cons (pv 0) (pa_cons (pe_globE (v := .ref a_BadRow) rfl ⟨_, T.x_BadRow.m, rfl⟩) pa_nil))) (pa_cons (pe_callB call_isX (by rfl) T.b_isinstance (by decide +kernel) (pa_cons (pv 0) (pa_cons (pe_globE (v := .ref a_NoName) rfl ⟨_, T.x_NoName.m, rfl⟩) pa_nil))) pa_nil))))))
 (pss_cons (ps_set (i := 1) sc_law_classes.nd rfl (Or.inl rfl) (pe_op (op_addUk (K := K)) (pv 1) (pe_lst (pa_cons (pe_callB call_isX (by rfl) T.b_isinstance (by decide +kernel) (pa_cons (pv 0) (pa_cons (pe_globE (v := .ref a_TakenName) rfl ⟨_, T.x_TakenName.m, rfl⟩) pa_nil))) (pa_cons (pe_callB call_isX (by rfl) T.b_isinstance (by decide +kernel) (pa_cons (pv 0) (pa_cons (pe_globE (v := .ref a_Unlike) rfl ⟨_, T.x_Unlike.m, rfl⟩) pa_nil))) (pa_cons (pe_callB call_isX (by rfl) T.b_isinstance (by decide +kernel) (pa_cons (pv 0) (pa_cons (pe_globE (v := .ref a_NotThere) rfl ⟨_, T.x_NotThere.m, rfl⟩) pa_nil))) pa_nil))))))
 (pss_cons (ps_set (i := 1) sc_law_classes.nd rfl (Or.inl rfl) (pe_op (op_addUk (K := K)) (pv 1) (pe_lst (pa_cons (pe_callB call_isX (by rfl) T.b_isinstance (by decide +kernel) (pa_cons (pv 0) (pa_cons (pe_globE (v := .ref a_TooMany) rfl ⟨_, T.x_TooMany.m, rfl⟩) pa_nil))) (pa_cons (pe_callB call_isX (by rfl) T.b_isinstance (by decide +kernel) (pa_cons (pv 0) (pa_cons (pe_globE (v := .ref a_NotKept) rfl ⟨_, T.x_NotKept.m, rfl⟩) pa_nil))) (pa_cons (pe_callB call_isX (by rfl) T.b_isinstance (by decide +kernel) (pa_cons (pv 0) (pa_cons (pe_globE (v := .ref a_NothingToUndo) rfl ⟨_, T.y_NothingToUndo.m, rfl⟩) pa_nil))) pa_nil))))))
 (pss_one (ps_ret (pe_op (op_addUk (K := K)) (pv 1) (pe_lst (pa_cons (pe_callB call_isX (by rfl) T.b_isinstance (by decide +kernel) (pa_cons (pv 0) (pa_cons (pe_globE (v := .ref a_NothingToRedo) rfl ⟨_, T.y_NothingToRedo.m, rfl⟩) pa_nil))) pa_nil)))))))))), rfl⟩) rfl fun ds hp => ?_
  · match ds, h with
    | [_], _ => rfl
  · match ds, hp with
    | [error_], hp => exact w_at (u_law_classes T) (v_law_classes T hp) rfl rfl rfl
abbrev pre_law_raised_right : List D → Prop
  | [one_] => GD 3 5000 one_
  | _ => False
abbrev post_law_raised_right : List D → D → Prop
  | [one_], r => r = .bl true
  | _, _ => False
def u_law_raised_right_16 (T : Txt K mg a_BadAim i_BadAim a_BadBody i_BadBody a_BadLetter i_BadLetter a_BadName i_BadName a_BadNumber i_BadNumber a_BadRow i_BadRow a_BadSaying i_BadSaying a_BadText i_BadText a_NoName i_NoName a_NotKept i_NotKept a_NotThere i_NotThere a_TakenName i_TakenName a_TooMany i_TooMany a_Unlike i_Unlike a_NothingToRedo a_NothingToUndo a_ForumError) : WS K L2.E0 := (WS.frz 1 (WS.ret (WM.up (WE.op O2.eq (WE.var 1) (WE.lst (WA.cons (WE.var 0) (WA.cons WE.non (WA.cons (WE.int 8) WA.nil))))))))
def u_law_raised_right_12 (T : Txt K mg a_BadAim i_BadAim a_BadBody i_BadBody a_BadLetter i_BadLetter a_BadName i_BadName a_BadNumber i_BadNumber a_BadRow i_BadRow a_BadSaying i_BadSaying a_BadText i_BadText a_NoName i_NoName a_NotKept i_NotKept a_NotThere i_NotThere a_TakenName i_TakenName a_TooMany i_TooMany a_Unlike i_Unlike a_NothingToRedo a_NothingToUndo a_ForumError) : WS K L2.E0 := (WS.seq (WS.tryRaise a_NoName ["name"] (WA.cons (WE.var 0) WA.nil) T.x_NoName.ox T.x_NoName.no [⟨.ref a_ForumError, 2, fun a cls d => (WS.append 1 (WM.up (WE.ite (WT.b (WE.isP a cls d (.ty "ValueError") (.type "ValueError") (.ty _) (WE.var 2))) (WE.int 8) (WE.int 0))))⟩] 0 (by intro q hq a c d; simp only [List.mem_cons, List.not_mem_nil, or_false] at hq; rcases hq with rfl <;> exact Nat.le_refl _))
 (u_law_raised_right_16 T))
def u_law_raised_right_6 (T : Txt K mg a_BadAim i_BadAim a_BadBody i_BadBody a_BadLetter i_BadLetter a_BadName i_BadName a_BadNumber i_BadNumber a_BadRow i_BadRow a_BadSaying i_BadSaying a_BadText i_BadText a_NoName i_NoName a_NotKept i_NotKept a_NotThere i_NotThere a_TakenName i_TakenName a_TooMany i_TooMany a_Unlike i_Unlike a_NothingToRedo a_NothingToUndo a_ForumError) : WS K L2.E0 := (WS.seq (WS.tryRaise0 a_NothingToRedo [⟨.ref a_NothingToUndo, (WS.append 1 (WM.up (WE.int 5)))⟩, ⟨.ref a_ForumError, (WS.append 1 (WM.up WE.non))⟩] 0 (by intro q hq; simp only [List.mem_cons, List.not_mem_nil, or_false] at hq; rcases hq with rfl | rfl <;> exact Nat.le_refl _))
 (u_law_raised_right_12 T))
def u_law_raised_right_2 (T : Txt K mg a_BadAim i_BadAim a_BadBody i_BadBody a_BadLetter i_BadLetter a_BadName i_BadName a_BadNumber i_BadNumber a_BadRow i_BadRow a_BadSaying i_BadSaying a_BadText i_BadText a_NoName i_NoName a_NotKept i_NotKept a_NotThere i_NotThere a_TakenName i_TakenName a_TooMany i_TooMany a_Unlike i_Unlike a_NothingToRedo a_NothingToUndo a_ForumError) : WS K L2.E0 := (WS.seq (WS.tryRaise a_TooMany ["what", "many", "limit"] (WA.cons (WE.str "a") (WA.cons (WE.var 0) (WA.cons (WE.int 3) WA.nil))) T.x_TooMany.ox T.x_TooMany.no [⟨.ref a_ForumError, 2, fun a cls d => (WS.append 1 (WM.up (WE.xf a cls d a_TooMany "many" (WE.var 2))))⟩] 0 (by intro q hq a c d; simp only [List.mem_cons, List.not_mem_nil, or_false] at hq; rcases hq with rfl <;> exact Nat.le_refl _))
 (u_law_raised_right_6 T))
def u_law_raised_right (T : Txt K mg a_BadAim i_BadAim a_BadBody i_BadBody a_BadLetter i_BadLetter a_BadName i_BadName a_BadNumber i_BadNumber a_BadRow i_BadRow a_BadSaying i_BadSaying a_BadText i_BadText a_NoName i_NoName a_NotKept i_NotKept a_NotThere i_NotThere a_TakenName i_TakenName a_TooMany i_TooMany a_Unlike i_Unlike a_NothingToRedo a_NothingToUndo a_ForumError) : WS K L2.E0 := (WS.seq (WS.asgOwn 1 WA.nil)
 (u_law_raised_right_2 T))
theorem v_law_raised_right {one_ : D} (T : Txt K mg a_BadAim i_BadAim a_BadBody i_BadBody a_BadLetter i_BadLetter a_BadName i_BadName a_BadNumber i_BadNumber a_BadRow i_BadRow a_BadSaying i_BadSaying a_BadText i_BadText a_NoName i_NoName a_NotKept i_NotKept a_NotThere i_NotThere a_TakenName i_TakenName a_TooMany i_TooMany a_Unlike i_Unlike a_NothingToRedo a_NothingToUndo a_ForumError) (hp : GD 3 5000 one_) : (u_law_raised_right T).w noX [.dat one_, .un, .un] (retW fun r => r = .bl true) := by
  unfold u_law_raised_right

  walk_at "w"
  refine ⟨by decide, ?_⟩
  unfold u_law_raised_right_2
  walk_at "w"
  refine ⟨by decide, _, T.et.exmF (C := a_TooMany) (by simp), fun _ x dx => ⟨dx, _, _, rfl, rfl, one_, rfl, by decide, ?_⟩, fun z => by cases z⟩
  unfold u_law_raised_right_6
  walk_at "w"
  refine ⟨_, T.et.exm (C := a_NothingToRedo) (D := a_NothingToUndo) (i := 15) (j := 14) rfl rfl (by decide), (fun z => by cases z), fun _ => ⟨_, T.et.exmF (C := a_NothingToRedo) (by simp), fun _ => ⟨by decide, ?_⟩, fun z => by cases z⟩⟩
  unfold u_law_raised_right_12
  walk_at "w"
  refine ⟨by decide, _, T.et.exmF (C := a_NoName) (by simp), fun _ x dx => ?_, fun z => by cases z⟩
  refine isP_at (T.et.ex.at a_NoName (by simp)) (T.et.kitV (C := a_NoName) (by simp)) ⟨fun _ => ⟨by decide, ?_⟩, fun z => by cases z⟩
  unfold u_law_raised_right_16
  walk_at "w"
  have g : GD 64 (([one_, .non, .int 8] : List D).length * 5002 + 3) (.lst [one_, .non, .int 8]) := (GDs.all (k := 3) (n := 5000) fun d hd => by
    simp only [List.mem_cons, List.not_mem_nil, or_false] at hd
    rcases hd with rfl | rfl | rfl
    · exact hp
    · exact gd_of (by decide +kernel)
    · exact gdI (by decide)).lst.mono (by decide) (Nat.le_refl _)
  exact ⟨by decide, g.ok, g.ok, eqv_self g⟩
theorem c_law_raised_right (X : Defs K mg a_BadAim i_BadAim a_BadBody i_BadBody a_BadLetter i_BadLetter a_BadName i_BadName a_BadNumber i_BadNumber a_BadRow i_BadRow a_BadSaying i_BadSaying a_BadText i_BadText a_NoName i_NoName a_NotKept i_NotKept a_NotThere i_NotThere a_TakenName i_TakenName a_TooMany i_TooMany a_Unlike i_Unlike a_NothingToRedo a_NothingToUndo a_ForumError) (T : Txt K mg a_BadAim i_BadAim a_BadBody i_BadBody a_BadLetter i_BadLetter a_BadName i_BadName a_BadNumber i_BadNumber a_BadRow i_BadRow a_BadSaying i_BadSaying a_BadText i_BadText a_NoName i_NoName a_NotKept i_NotKept a_NotThere i_NotThere a_TakenName i_TakenName a_TooMany i_TooMany a_Unlike i_Unlike a_NothingToRedo a_NothingToUndo a_ForumError) : Cal P w K mg base "_law_raised_right" 3 ["one"] [] (SpP K pre_law_raised_right post_law_raised_right) := by
  have o_NoName := o_NoName (P := P) (w := w) (base := base) X T
  have o_TooMany := o_TooMany (P := P) (w := w) (base := base) X T
  refine cal_W (N := N_law_raised_right) (u_law_raised_right T) X.d_law_raised_right sc_law_raised_right (fun ds h => ?_) (fun f cdv A outer s H E hr ng => ⟨_, (pss_cons (ps_set (i := 1) sc_law_raised_right.nd rfl (Or.inl rfl) (pe_lst pa_nil))
 (pss_cons (ps_try_someAs (l := (clT (K := K) (E := L2.E0) [⟨.ref a_ForumError, 2, fun a cls d => (WS.append 1 (WM.up (WE.xf a cls d a_TooMany "many" (WE.var 2))))⟩])) (tb := fun W => fun _ σ H => tMkO a_TooMany (SpI K ["what", "many", "limit"]) [] (WA.cons (K := K) (E := L2.E0) (WE.str "a") (WA.cons (WE.var 0) (WA.cons (WE.int 3) WA.nil))).t σ H fun cls d H' => W cls d σ H') (Wo := fun cls d _ H => L2.E0 cls d H) rfl rfl sc_law_raised_right.nd takes0 (fun W pn xe tk _ => pss_one (ps_raiseW o_TooMany hr (by decide) rfl tk rfl (pa_cons pe_str (pa_cons (pv 0) (pa_cons pe_int pa_nil))))) (.cons (i := 2) ⟨rfl, by decide, Or.inl T.m_ForumError⟩ rfl rfl (fun a oe cls d pn hz hf => (pss_one (ps_expr (pe_bm PySem.F.plainAttrs_list PySem.F.slot_list_append PySem.F.type_list_append mt_append (pv 1) (pa_cons (pe_xf T.x_TooMany.xf (T.x_TooMany.no _ (by simp)) hz hf (pv 2)) pa_nil))))) .nil))
 (pss_cons (ps_try_many (l := cl0T (K := K) (E := L2.E0) [⟨.ref a_NothingToUndo, (WS.append 1 (WM.up (WE.int 5)))⟩, ⟨.ref a_ForumError, (WS.append 1 (WM.up WE.non))⟩]) (tb := fun W => fun _ σ H => W (.ref a_NothingToRedo) none σ H) (Wout := fun cls d _ H => L2.E0 cls d H) rfl rfl takes0 (fun W pn xe tk _ => pss_one (ps_raiseN T.y_NothingToRedo rfl tk rfl)) (.cons ⟨rfl, by decide, Or.inl T.y_NothingToUndo.m⟩ (fun a oe cls d pn hz hf => (pss_one (ps_expr (pe_bm PySem.F.plainAttrs_list PySem.F.slot_list_append PySem.F.type_list_append mt_append (pv 1) (pa_cons pe_int pa_nil))))) (.cons ⟨rfl, by decide, Or.inl T.m_ForumError⟩ (fun a oe cls d pn hz hf => (pss_one (ps_expr (pe_bm PySem.F.plainAttrs_list PySem.F.slot_list_append PySem.F.type_list_append mt_append (pv 1) (pa_cons pe_non pa_nil))))) .nil)))
 (pss_cons (ps_try_someAs (l := (clT (K := K) (E := L2.E0) [⟨.ref a_ForumError, 2, fun a cls d => (WS.append 1 (WM.up (WE.ite (WT.b (WE.isP a cls d (.ty "ValueError") (.type "ValueError") (.ty _) (WE.var 2))) (WE.int 8) (WE.int 0))))⟩])) (tb := fun W => fun _ σ H => tMkO a_NoName (SpI K ["name"]) [] (WA.cons (K := K) (E := L2.E0) (WE.var 0) WA.nil).t σ H fun cls d H' => W cls d σ H') (Wo := fun cls d _ H => L2.E0 cls d H) rfl rfl sc_law_raised_right.nd takes0 (fun W pn xe tk _ => pss_one (ps_raiseW o_NoName hr (by decide) rfl tk rfl (pa_cons (pv 0) pa_nil))) (.cons (i := 2) ⟨rfl, by decide, Or.inl T.m_ForumError⟩ rfl rfl (fun a oe cls d pn hz hf => (pss_one (ps_expr (pe_bm PySem.F.plainAttrs_list PySem.F.slot_list_append PySem.F.type_list_append mt_append (pv 1) (pa_cons (pe_ifExp (pt_val (pe_callB (call_isP hz hf) (by rfl) T.b_isinstance (by decide +kernel) (pa_cons (pv 2) (pa_cons (pe_bltn (v := .ty "ValueError") (by rfl) T.b_ValueError (by decide +kernel) rfl) pa_nil)))) pe_int pe_int) pa_nil))))) .nil))
 (pss_one (ps_ret (pe_cmpR (op_eqDk (K := K) (Room.units hr)) (pv 1) (pe_lst (pa_cons (pv 0) (pa_cons pe_non (pa_cons pe_int pa_nil)))) (nomark _)))))))), rfl⟩) rfl fun ds hp => ?_
  · match ds, h with
    | [_], _ => rfl
  · match ds, hp with
    | [one_], hp => exact w_at (u_law_raised_right T) (v_law_raised_right T hp) rfl rfl rfl
end
end K01
set_option maxRecDepth 100000
set_option maxHeartbeats 8000000
namespace K01
open PySem L2 PyProof.Rows DL
section
variable {P : Program} {w : World} {K : PySem.W.Frag} {mg : Str → Option Value} {base : Heap} {a_BadAim i_BadAim a_BadBody i_BadBody a_BadLetter i_BadLetter a_BadName i_BadName a_BadNumber i_BadNumber a_BadRow i_BadRow a_BadSaying i_BadSaying a_BadText i_BadText a_NoName i_NoName a_NotKept i_NotKept a_NotThere i_NotThere a_TakenName i_TakenName a_TooMany i_TooMany a_Unlike i_Unlike a_NothingToRedo a_NothingToUndo a_ForumError : Addr}
local macro_rules | `(tactic| walk_at "w") => `(tactic| simp (config := { maxSteps := 10000000 }) only [DL.sub_un, DL.sub_pen, DL.sub_dat, DL.dsub_non, DL.dsub_bl, DL.dsub_int, DL.dsub_str, DL.dsub_ptr, DL.dsub_lst, DL.dsub_tup, DL.dsub_err, DL.dsubs_nil, DL.dsubs_cons, List.reverse_cons, List.reverse_nil, DL.w_isX, DL.w_isP, DL.w_tryRaise, DL.chW_cons, DL.w_tryRaise0, DL.ch0_cons, DL.w_parOL, DL.owAt_0, DL.owAt_s, DL.w_pvar, DL.w_name, DL.w_tell, DL.w_appendO, DL.w_mkE, DL.w_mkE0, DL.w_fldX, DL.w_var, DL.w_int, DL.w_bl, DL.w_str, DL.w_non, DL.w_ktup, DL.w_op, DL.w_neg, DL.w_chain, DL.w_nil, DL.w_cons, DL.w_tup, DL.w_lst, DL.w_tst, DL.w_tb, DL.w_not, DL.w_yes, DL.w_and, DL.w_or, DL.w_andV, DL.w_orV, DL.w_notV, DL.w_ite, DL.w_none, DL.w_some, DL.w_sl, DL.w_cb, DL.w_isi, DL.w_isi2, DL.w_call, DL.w_callD, DL.w_callX, DL.w_callG, DL.w_split, DL.w_dget, DL.w_knil, DL.w_kcons, DL.w_dispK, DL.w_seqI, DL.w_rng1, DL.w_rng2, DL.w_enum, DL.w_zip, DL.w_lc, DL.w_borrow, DL.w_up, DL.w_popAt, DL.w_next, DL.w_brk, DL.w_cont, DL.w_seq, DL.w_ret, DL.w_retN, DL.w_asg, DL.w_asgT, DL.w_asgOwn, DL.w_drop, DL.w_ifS, DL.w_append, DL.w_raiseO, DL.w_xf, DL.w_tryAsg, DL.w_mkX, DL.w_fldR, DL.w_fld, DL.w_isC, DL.q_eqO, DL.q_neO, DL.w_tryMk, DL.slfAt_0, DL.slfAt_s, DL.w_asgLend, DL.lendAt_o, DL.lendAt_d, DL.lendAt_s, DL.w_borrowD, DL.w_asgIteL, DL.w_frz, frzAt_0, frzAt_d, frzAt_u, frzAt_s, DL.w_forS, DL.w_par, DL.w_parLE,
  DL.q_int, DL.q_cmp, DL.q_intC, DL.q_addI, DL.q_addS, DL.q_addT, DL.q_addL, DL.q_mulI, DL.q_mulS, DL.q_mulL, DL.q_eq, DL.q_ne, DL.q_isN, DL.q_isB, DL.q_notN, DL.q_inT, DL.q_inL, DL.q_inS, DL.q_ninT, DL.q_ninL, DL.q_ninS, DL.q_ixL, DL.q_ixT, DL.q_ixS, DL.n_len, DL.n_list, DL.n_tuple, DL.n_all, DL.n_any, DL.n_sum, DL.n_sortedS, DL.n_min2, DL.n_max2, DL.n_int1, DL.n_strI, DL.n_repr, DL.g_name, DL.is_name, cut_tup, cut_lst,  isi_str, isi_int, isi_bool, isi_tuple, isi_list,
  datAt_0, datAt_s, ownAt_0, ownAt_s, penIs_0, penIs_s, setD_nil, setD_cons, wipeG, List.set_cons_zero, List.set_cons_succ, List.set_nil, List.map_cons, List.map_nil, List.cons_append, List.nil_append,
  D.bl.injEq, D.int.injEq, D.str.injEq, exists_eq_left', exists_eq_left, exists_and_left, exists_eq', exists_eq, true_and, and_true, true_imp_iff, false_imp_iff, Bool.true_eq_false, Bool.false_eq_true, forall_const, Bool.not_true, Bool.not_false, List.length_cons, List.length_nil, eqv_str, eqv_int, ok_int, ok_bl, ok_non, forall_eq, atI_0, atI_1, atI_2, atI_3, List.getElem?_cons_zero, List.getElem?_cons_succ, List.getElem?_nil, Option.some.injEq, Sk.own.injEq, len_tup, len_lst, its_tup, its_lst, itemsOf_tup, itemsOf_lst, itemsOf_str, isS_str, isT_tup, isL_lst, isI_int, isB_bl, builtin_str, builtin_tup, builtin_lst, builtin_int, builtin_bl, builtin_non, D.sign_one, List.all_cons, List.all_nil, Bool.and_true])

local macro_rules | `(tactic| walk_at "fld") => `(tactic| first
  | refine fld_at (by assumption) (by simp) rfl ?_
  | refine ⟨by decide, ?_⟩)
def clsD : D → Option Addr
  | .err C _ _ => some C
  | _ => none
theorem errs_at {l : List D} {cs : List Addr} (h : l.map clsD = cs.map some) {j : Nat} {e : D} (hj : l[j]? = some e) : ∃ C ns ds, cs[j]? = some C ∧ e = .err C ns ds := by
  have h1 : (l.map clsD)[j]? = some (clsD e) := by rw [List.getElem?_map, hj]; rfl
  rw [h, List.getElem?_map] at h1
  cases q : cs[j]? with
  | none => rw [q] at h1; cases h1
  | some C =>
    rw [q] at h1
    have h2 : some (some C) = some (clsD e) := h1
    cases e with
    | err C' ns ds => cases h2; exact ⟨_, ns, ds, rfl, rfl⟩
    | _ => cases h2
def u_law_18 (T : Txt K mg a_BadAim i_BadAim a_BadBody i_BadBody a_BadLetter i_BadLetter a_BadName i_BadName a_BadNumber i_BadNumber a_BadRow i_BadRow a_BadSaying i_BadSaying a_BadText i_BadText a_NoName i_NoName a_NotKept i_NotKept a_NotThere i_NotThere a_TakenName i_TakenName a_TooMany i_TooMany a_Unlike i_Unlike a_NothingToRedo a_NothingToUndo a_ForumError) : WS K L2.E0 := (WS.ifS (WT.or (WT.not (WT.b (WE.isX (.ref a_ForumError) (.ref a_ForumError) (.own _) (WE.var 11)))) (WT.not (WT.b (WE.isX (.ty "ValueError") (.type "ValueError") (.ty _) (WE.var 11)))))
 (WS.ret (WM.up (WE.bl false)))
 WS.next)
def u_law_16 (T : Txt K mg a_BadAim i_BadAim a_BadBody i_BadBody a_BadLetter i_BadLetter a_BadName i_BadName a_BadNumber i_BadNumber a_BadRow i_BadRow a_BadSaying i_BadSaying a_BadText i_BadText a_NoName i_NoName a_NotKept i_NotKept a_NotThere i_NotThere a_TakenName i_TakenName a_TooMany i_TooMany a_Unlike i_Unlike a_NothingToRedo a_NothingToUndo a_ForumError) : WS K L2.E0 := (WS.seq (WS.ifS (WT.tst (WE.op O2.ne (WE.call (pre_law_classes a_BadAim i_BadAim a_BadBody i_BadBody a_BadLetter i_BadLetter a_BadName i_BadName a_BadNumber i_BadNumber a_BadRow i_BadRow a_BadSaying i_BadSaying a_BadText i_BadText a_NoName i_NoName a_NotKept i_NotKept a_NotThere i_NotThere a_TakenName i_TakenName a_TooMany i_TooMany a_Unlike i_Unlike a_NothingToRedo a_NothingToUndo a_ForumError) (post_law_classes a_BadAim i_BadAim a_BadBody i_BadBody a_BadLetter i_BadLetter a_BadName i_BadName a_BadNumber i_BadNumber a_BadRow i_BadRow a_BadSaying i_BadSaying a_BadText i_BadText a_NoName i_NoName a_NotKept i_NotKept a_NotThere i_NotThere a_TakenName i_TakenName a_TooMany i_TooMany a_Unlike i_Unlike a_NothingToRedo a_NothingToUndo a_ForumError) (WA.cons (WE.var 11) WA.nil)) (WE.lc (WI.rng1 (WA.cons (WE.int 16) WA.nil)) (WG.name 12) WT.yes (WE.op O2.eq (WE.var 10) (WE.var 12)) 999999)))
 (WS.ret (WM.up (WE.bl false)))
 WS.next)
 (u_law_18 T))
def u_law_20 (T : Txt K mg a_BadAim i_BadAim a_BadBody i_BadBody a_BadLetter i_BadLetter a_BadName i_BadName a_BadNumber i_BadNumber a_BadRow i_BadRow a_BadSaying i_BadSaying a_BadText i_BadText a_NoName i_NoName a_NotKept i_NotKept a_NotThere i_NotThere a_TakenName i_TakenName a_TooMany i_TooMany a_Unlike i_Unlike a_NothingToRedo a_NothingToUndo a_ForumError) : WS K L2.E0 := (WS.ret (WM.up (WE.call pre_law_raised_right post_law_raised_right (WA.cons (WE.callG m_law_thing pre_law_thing post_law_thing 1 WA.nil) WA.nil))))
def u_law_15 (T : Txt K mg a_BadAim i_BadAim a_BadBody i_BadBody a_BadLetter i_BadLetter a_BadName i_BadName a_BadNumber i_BadNumber a_BadRow i_BadRow a_BadSaying i_BadSaying a_BadText i_BadText a_NoName i_NoName a_NotKept i_NotKept a_NotThere i_NotThere a_TakenName i_TakenName a_TooMany i_TooMany a_Unlike i_Unlike a_NothingToRedo a_NothingToUndo a_ForumError) : WS K L2.E0 := (WS.seq (WS.forS (WI.enum (WA.cons (WE.var 9) WA.nil)) (WG.tup (WGs.cons (WG.name 10) (WGs.cons (WG.name 11) WGs.nil)))
 (u_law_16 T) 1000000)
 (u_law_20 T))
def u_law_14 (T : Txt K mg a_BadAim i_BadAim a_BadBody i_BadBody a_BadLetter i_BadLetter a_BadName i_BadName a_BadNumber i_BadNumber a_BadRow i_BadRow a_BadSaying i_BadSaying a_BadText i_BadText a_NoName i_NoName a_NotKept i_NotKept a_NotThere i_NotThere a_TakenName i_TakenName a_TooMany i_TooMany a_Unlike i_Unlike a_NothingToRedo a_NothingToUndo a_ForumError) : WS K L2.E0 := (WS.seq (WS.asg 9 (WM.up (WE.op O2.add (WE.var 9) (WE.lst (WA.cons (WE.mkE a_TooMany ["what", "many", "limit"] (WA.cons (WE.var 7) (WA.cons (WE.var 8) (WA.cons (WE.var 7) WA.nil))) T.x_TooMany.ox T.x_TooMany.no) (WA.cons (WE.mkE a_NotKept ["promise", "witness"] (WA.cons (WE.var 7) (WA.cons (WE.var 8) WA.nil)) T.x_NotKept.ox T.x_NotKept.no) (WA.cons (WE.mkE0 a_NothingToUndo) (WA.cons (WE.mkE0 a_NothingToRedo) WA.nil))))))))
 (u_law_15 T))
def u_law_13 (T : Txt K mg a_BadAim i_BadAim a_BadBody i_BadBody a_BadLetter i_BadLetter a_BadName i_BadName a_BadNumber i_BadNumber a_BadRow i_BadRow a_BadSaying i_BadSaying a_BadText i_BadText a_NoName i_NoName a_NotKept i_NotKept a_NotThere i_NotThere a_TakenName i_TakenName a_TooMany i_TooMany a_Unlike i_Unlike a_NothingToRedo a_NothingToUndo a_ForumError) : WS K L2.E0 := (WS.seq (WS.asg 9 (WM.up (WE.op O2.add (WE.var 9) (WE.lst (WA.cons (WE.mkE a_BadAim ["index"] (WA.cons (WE.var 7) WA.nil) T.x_BadAim.ox T.x_BadAim.no) (WA.cons (WE.mkE a_BadRow ["what", "row"] (WA.cons (WE.var 7) (WA.cons (WE.var 8) WA.nil)) T.x_BadRow.ox T.x_BadRow.no) (WA.cons (WE.mkE a_NoName ["name"] (WA.cons (WE.var 7) WA.nil) T.x_NoName.ox T.x_NoName.no) (WA.cons (WE.mkE a_TakenName ["name"] (WA.cons (WE.var 7) WA.nil) T.x_TakenName.ox T.x_TakenName.no) (WA.cons (WE.mkE a_Unlike ["what"] (WA.cons (WE.var 7) WA.nil) T.x_Unlike.ox T.x_Unlike.no) (WA.cons (WE.mkE a_NotThere ["what"] (WA.cons (WE.var 7) WA.nil) T.x_NotThere.ox T.x_NotThere.no) WA.nil))))))))))
 (u_law_14 T))
def u_law_12 (T : Txt K mg a_BadAim i_BadAim a_BadBody i_BadBody a_BadLetter i_BadLetter a_BadName i_BadName a_BadNumber i_BadNumber a_BadRow i_BadRow a_BadSaying i_BadSaying a_BadText i_BadText a_NoName i_NoName a_NotKept i_NotKept a_NotThere i_NotThere a_TakenName i_TakenName a_TooMany i_TooMany a_Unlike i_Unlike a_NothingToRedo a_NothingToUndo a_ForumError) : WS K L2.E0 := (WS.seq (WS.asg 9 (WM.up (WE.lst (WA.cons (WE.mkE a_BadText ["line", "word"] (WA.cons (WE.var 7) (WA.cons (WE.var 8) WA.nil)) T.x_BadText.ox T.x_BadText.no) (WA.cons (WE.mkE a_BadName ["name"] (WA.cons (WE.var 7) WA.nil) T.x_BadName.ox T.x_BadName.no) (WA.cons (WE.mkE a_BadNumber ["what", "number"] (WA.cons (WE.var 7) (WA.cons (WE.var 8) WA.nil)) T.x_BadNumber.ox T.x_BadNumber.no) (WA.cons (WE.mkE a_BadSaying ["saying"] (WA.cons (WE.var 7) WA.nil) T.x_BadSaying.ox T.x_BadSaying.no) (WA.cons (WE.mkE a_BadLetter ["index"] (WA.cons (WE.var 7) WA.nil) T.x_BadLetter.ox T.x_BadLetter.no) (WA.cons (WE.mkE a_BadBody ["body"] (WA.cons (WE.var 7) WA.nil) T.x_BadBody.ox T.x_BadBody.no) WA.nil)))))))))
 (u_law_13 T))
def u_law_11 (T : Txt K mg a_BadAim i_BadAim a_BadBody i_BadBody a_BadLetter i_BadLetter a_BadName i_BadName a_BadNumber i_BadNumber a_BadRow i_BadRow a_BadSaying i_BadSaying a_BadText i_BadText a_NoName i_NoName a_NotKept i_NotKept a_NotThere i_NotThere a_TakenName i_TakenName a_TooMany i_TooMany a_Unlike i_Unlike a_NothingToRedo a_NothingToUndo a_ForumError) : WS K L2.E0 := (WS.seq (WS.par 7 8 (WE.callG m_law_thing pre_law_thing post_law_thing 1 WA.nil) (WE.callG m_law_thing pre_law_thing post_law_thing 1 WA.nil))
 (u_law_12 T))
def u_law_9 (T : Txt K mg a_BadAim i_BadAim a_BadBody i_BadBody a_BadLetter i_BadLetter a_BadName i_BadName a_BadNumber i_BadNumber a_BadRow i_BadRow a_BadSaying i_BadSaying a_BadText i_BadText a_NoName i_NoName a_NotKept i_NotKept a_NotThere i_NotThere a_TakenName i_TakenName a_TooMany i_TooMany a_Unlike i_Unlike a_NothingToRedo a_NothingToUndo a_ForumError) : WS K L2.E0 := (WS.seq (WS.tell 4 (WS.ifS (WT.tst (WE.op O2.ne (WE.lst (WA.cons (WE.fldX "row" (WE.op O2.ix (WE.var 6) (WE.int 0))) (WA.cons (WE.fldX "word" (WE.op O2.ix (WE.var 6) (WE.int 1))) (WA.cons (WE.fldX "witness" (WE.op O2.ix (WE.var 6) (WE.int 2))) (WA.cons (WE.fldX "saying" (WE.op O2.ix (WE.var 6) (WE.int 3))) (WA.cons (WE.fldX "many" (WE.op O2.ix (WE.var 6) (WE.int 4))) WA.nil)))))) (WE.op O2.mul (WE.lst (WA.cons (WE.var 5) WA.nil)) (WE.int 5))))
 (WS.ret (WM.up (WE.bl false)))
 WS.next))
 (u_law_11 T))
def u_law_8 (T : Txt K mg a_BadAim i_BadAim a_BadBody i_BadBody a_BadLetter i_BadLetter a_BadName i_BadName a_BadNumber i_BadNumber a_BadRow i_BadRow a_BadSaying i_BadSaying a_BadText i_BadText a_NoName i_NoName a_NotKept i_NotKept a_NotThere i_NotThere a_TakenName i_TakenName a_TooMany i_TooMany a_Unlike i_Unlike a_NothingToRedo a_NothingToUndo a_ForumError) : WS K L2.E0 := (WS.seq (WS.appendO 4 (WE.int 5))
 (u_law_9 T))
def u_law_7 (T : Txt K mg a_BadAim i_BadAim a_BadBody i_BadBody a_BadLetter i_BadLetter a_BadName i_BadName a_BadNumber i_BadNumber a_BadRow i_BadRow a_BadSaying i_BadSaying a_BadText i_BadText a_NoName i_NoName a_NotKept i_NotKept a_NotThere i_NotThere a_TakenName i_TakenName a_TooMany i_TooMany a_Unlike i_Unlike a_NothingToRedo a_NothingToUndo a_ForumError) : WS K L2.E0 := (WS.seq (WS.name 4 (WS.asg 6 (WM.up (WE.lst (WA.cons (WE.mkE a_BadRow ["what", "row"] (WA.cons (WE.str "rows") (WA.cons (WE.pvar 4) WA.nil)) T.x_BadRow.ox T.x_BadRow.no) (WA.cons (WE.mkE a_BadText ["line", "word"] (WA.cons (WE.int 0) (WA.cons (WE.pvar 4) WA.nil)) T.x_BadText.ox T.x_BadText.no) (WA.cons (WE.mkE a_NotKept ["promise", "witness"] (WA.cons (WE.str "a") (WA.cons (WE.pvar 4) WA.nil)) T.x_NotKept.ox T.x_NotKept.no) (WA.cons (WE.mkE a_BadSaying ["saying"] (WA.cons (WE.pvar 4) WA.nil) T.x_BadSaying.ox T.x_BadSaying.no) (WA.cons (WE.mkE a_TooMany ["what", "many", "limit"] (WA.cons (WE.str "a") (WA.cons (WE.pvar 4) (WA.cons (WE.int 1) WA.nil))) T.x_TooMany.ox T.x_TooMany.no) WA.nil)))))))))
 (u_law_8 T))
def u_law_6 (T : Txt K mg a_BadAim i_BadAim a_BadBody i_BadBody a_BadLetter i_BadLetter a_BadName i_BadName a_BadNumber i_BadNumber a_BadRow i_BadRow a_BadSaying i_BadSaying a_BadText i_BadText a_NoName i_NoName a_NotKept i_NotKept a_NotThere i_NotThere a_TakenName i_TakenName a_TooMany i_TooMany a_Unlike i_Unlike a_NothingToRedo a_NothingToUndo a_ForumError) : WS K L2.E0 := (WS.seq (WS.parOL 4 5 (WA.cons (WE.lst (WA.cons (WE.int 1) (WA.cons (WE.int 2) WA.nil))) (WA.cons (WE.lst (WA.cons (WE.var 3) WA.nil)) WA.nil)) (WE.lst (WA.cons (WE.lst (WA.cons (WE.int 1) (WA.cons (WE.int 2) WA.nil))) (WA.cons (WE.lst (WA.cons (WE.var 3) WA.nil)) (WA.cons (WE.int 5) WA.nil)))))
 (u_law_7 T))
def u_law_5 (T : Txt K mg a_BadAim i_BadAim a_BadBody i_BadBody a_BadLetter i_BadLetter a_BadName i_BadName a_BadNumber i_BadNumber a_BadRow i_BadRow a_BadSaying i_BadSaying a_BadText i_BadText a_NoName i_NoName a_NotKept i_NotKept a_NotThere i_NotThere a_TakenName i_TakenName a_TooMany i_TooMany a_Unlike i_Unlike a_NothingToRedo a_NothingToUndo a_ForumError) : WS K L2.E0 := (WS.seq (WS.asg 3 (WM.up (WE.callG m_law_draw pre_law_draw post_law_draw 1 (WA.cons (WE.int 99) WA.nil))))
 (u_law_6 T))
def u_law (T : Txt K mg a_BadAim i_BadAim a_BadBody i_BadBody a_BadLetter i_BadLetter a_BadName i_BadName a_BadNumber i_BadNumber a_BadRow i_BadRow a_BadSaying i_BadSaying a_BadText i_BadText a_NoName i_NoName a_NotKept i_NotKept a_NotThere i_NotThere a_TakenName i_TakenName a_TooMany i_TooMany a_Unlike i_Unlike a_NothingToRedo a_NothingToUndo a_ForumError) : WS K L2.E0 := (WS.seq (WS.forS (WI.rng1 (WA.cons (WE.int 4) WA.nil)) (WG.name 2)
 (WS.ifS (WT.not (WT.b (WE.call pre_law_fields_right post_law_fields_right (WA.cons (WE.callG m_law_thing pre_law_thing post_law_thing 1 WA.nil) (WA.cons (WE.callG m_law_thing pre_law_thing post_law_thing 1 WA.nil) WA.nil)))))
 (WS.ret (WM.up (WE.bl false)))
 WS.next) 64)
 (u_law_5 T))
theorem v_law (T : Txt K mg a_BadAim i_BadAim a_BadBody i_BadBody a_BadLetter i_BadLetter a_BadName i_BadName a_BadNumber i_BadNumber a_BadRow i_BadRow a_BadSaying i_BadSaying a_BadText i_BadText a_NoName i_NoName a_NotKept i_NotKept a_NotThere i_NotThere a_TakenName i_TakenName a_TooMany i_TooMany a_Unlike i_Unlike a_NothingToRedo a_NothingToUndo a_ForumError) : (u_law T).w noX [.un, .pen, .un, .un, .un, .un, .un, .un, .un, .un, .un, .un, .un] (retW fun r => r = .bl true) := by
  unfold u_law

  walk_at "w"
  refine ⟨4, rfl, by decide, ?_⟩
  refine ForP.of (fun j G => ∃ s2, G = [.un, .pen, s2, .un, .un, .un, .un, .un, .un, .un, .un, .un, .un]) (by simp) ⟨_, rfl⟩ ?_ ?_
  · rintro j q G hd ⟨s2, rfl⟩
    refine ⟨_, rfl, ?_⟩
    walk_at "w"
    simp only [pre_law_thing, post_law_thing, pre_law_fields_right, post_law_fields_right]
    exact fun d hd d1 hd1 => ⟨⟨hd, hd1⟩, _, rfl⟩
  · rintro G ⟨s2, rfl⟩
    unfold u_law_5
    walk_at "w"
    simp only [pre_law_draw, post_law_draw]
    refine ⟨by decide, ?_⟩
    rintro d ⟨k, rfl, k0, k1⟩
    unfold u_law_6
    walk_at "w"
    refine ⟨by decide, by decide, by decide, by decide, by decide, by decide, ?_⟩
    unfold u_law_7
    walk_at "w"
    intro a
    refine ⟨by decide, by decide, by decide, by decide, by decide, by decide, ?_⟩
    unfold u_law_8
    walk_at "w"
    refine ⟨by decide, ?_⟩
    unfold u_law_9
    walk_at "w"
    have x_BadText := T.x_BadText
    have x_BadRow := T.x_BadRow
    have x_BadSaying := T.x_BadSaying
    have x_NotKept := T.x_NotKept
    have x_TooMany := T.x_TooMany
    have gk : GD 2 1930 (.int k) := gdI ⟨by omega, by omega⟩
    have gA : GD 3 (1930 + 2 + (1930 + 2 + 0) + 3) (.lst [.int 1, .int 2]) := (GDs.cons (gdI (k := 2) (n := 1930) (by decide)) (GDs.cons (gdI (n := 1930) (by decide)) (GDs.nil (n := 0)))).lst
    have gB : GD 3 (1930 + 2 + 0 + 3) (.lst [.int k]) := (GDs.cons gk (GDs.nil (n := 0))).lst
    have g : GD 4 20000 (.lst [.lst [.int 1, .int 2], .lst [.int k], .int 5]) := GD.mono (k := 4) (n := 1930 + 2 + (1930 + 2 + 0) + 3 + 2 + (1930 + 2 + 0 + 3 + 2 + (1930 + 2 + 0)) + 3) (GDs.cons gA (GDs.cons gB (GDs.cons (gdI (k := 3) (n := 1930) (i := 5) (by decide)) (GDs.nil (k := 3) (n := 0))))).lst (by decide) (by decide)
    have g5 : GD 5 (5 * 20002 + 3) (.lst (List.replicate 5 (.lst [.lst [.int 1, .int 2], .lst [.int k], .int 5]))) := (GDs.all (k := 4) (n := 20000) (ds := List.replicate 5 (.lst [.lst [.int 1, .int 2], .lst [.int k], .int 5])) fun d hd => by rw [List.eq_of_mem_replicate hd]; exact g).lst
    iterate 4 walk_at "fld"
    refine ⟨_, rfl, ?_⟩
    walk_at "fld"
    refine ⟨by decide, by decide, ⟨by decide, by decide, by decide⟩, ne_case g5 (by decide) ?_⟩
    unfold u_law_11
    walk_at "w"
    simp only [pre_law_thing, post_law_thing]
    intro d1 h1 d2 h2
    unfold u_law_12
    walk_at "w"
    refine ⟨by decide, by decide, by decide, by decide, by decide, by decide, by decide, ?_⟩
    unfold u_law_13
    walk_at "w"
    refine ⟨by decide, by decide, by decide, by decide, by decide, by decide, by decide, by decide, ?_⟩
    unfold u_law_14
    walk_at "w"
    refine ⟨by decide, by decide, by decide, by decide, ?_⟩
    generalize hK : Sk.dat (D.lst [D.err a_BadRow _ _, _, _, _, _]) = s6
    generalize Sk.dat (D.lst [D.lst [D.int 1, D.int 2], D.lst [D.int k], D.int 5]) = s4
    generalize Sk.sub a [D.lst [D.int 1, D.int 2], D.lst [D.int k], D.int 5] s2 = s2'
    unfold u_law_15
    walk_at "w"
    refine ⟨_, rfl, ?_⟩
    generalize hl : ([D.err a_BadText _ _, _, _, _, _, _, _, _, _, _, _, _, _, _, _, _] : List D) = l
    have hf : l.map clsD = ([a_BadText, a_BadName, a_BadNumber, a_BadSaying, a_BadLetter, a_BadBody, a_BadAim, a_BadRow, a_NoName, a_TakenName, a_Unlike, a_NotThere, a_TooMany, a_NotKept, a_NothingToUndo, a_NothingToRedo] : List Addr).map some := by rw [← hl]; rfl
    have hlen : l.length = 16 := by rw [← hl]; rfl
    refine ForP.of (fun j G => ∃ s10 s11 s12, G = [.un, .pen, s2', .dat (.int k), s4, s4, s6, .dat d1, .dat d2, .dat (.lst l), s10, s11, s12]) (by simp [enumD, hlen]) ⟨_, _, _, rfl⟩ ?_ ?_
    · rintro j q G hd ⟨s10, s11, s12, rfl⟩
      obtain ⟨e, hj, rfl⟩ := enumD_get hd
      obtain ⟨C, ns, ds, hc, rfl⟩ := errs_at hf hj
      refine ⟨_, rfl, ?_⟩
      unfold u_law_16
      walk_at "w"
      refine ⟨⟨j, C, ns, ds, hc, rfl⟩, ?_⟩
      rintro d ⟨i, C', ns', ds', hi, e, rfl⟩
      cases e
      have eij : i = j := by
        by_cases z : i = j
        · exact z
        · exact absurd rfl (T.et.ne hi hc z)
      subst eij
      have hi16 : i < 16 := (List.getElem?_eq_some_iff.mp hi).1
      have gx : ∀ x : Nat, x < 16 → GD 63 1930 (.int ((x : Int))) := fun x hx => gdI ⟨by omega, by omega⟩
      have gr : GD 64 (16 * 1932 + 3) (.lst ((List.range 16).map fun x => .bl (decide (i = x)))) := (GDs.all (k := 63) (n := 1930) (ds := (List.range 16).map fun x => .bl (decide (i = x))) fun d hd => by
        obtain ⟨x, _, rfl⟩ := List.mem_map.mp hd
        cases decide (i = x) <;> exact gd_of (by decide +kernel)).lst
      refine ⟨16, rfl, by decide, LcP.map (fun d => .bl ((D.int (i : Int)).eqv d)) (by simp) (fun d hd => ?_) ?_⟩
      · obtain ⟨x, hx, rfl⟩ := mem_rngD hd
        refine ⟨_, rfl, ?_⟩
        have e0 : (0 : Int) + (x : Int) = (x : Int) := by omega
        have o1 := (gx i hi16).ok
        have o2 := (gx x hx).ok
        walk_at "w"
      · have e : (rngD 0 (Int.toNat 16)).map (fun d => D.bl ((D.int (i : Int)).eqv d)) = (List.range 16).map fun x => .bl (decide (i = x)) := by
          unfold rngD
          rw [List.map_map]
          refine List.map_congr_left fun x _ => ?_
          show D.bl ((D.int (i : Int)).eqv (.int (0 + (x : Int)))) = _
          rw [eqv_int]
          congr 1
          rw [Bool.eq_iff_iff]
          simp only [decide_eq_true_eq]
          omega
        rw [e]
        refine ne_case gr (by decide) ?_
        unfold u_law_18
        walk_at "w"
        have hm := List.mem_of_getElem? hc
        refine isX_at (T.et.ex.at C hm) (T.et.kitF hm) ?_
        refine ⟨fun _ => isX_at (T.et.ex.at C hm) (T.et.kitV hm) ⟨(fun z => by cases z), fun _ => ⟨_, _, _, rfl⟩⟩, fun z => by cases z⟩
    · rintro G ⟨s10, s11, s12, rfl⟩
      unfold u_law_20
      walk_at "w"
      simp only [pre_law_thing, post_law_thing, pre_law_raised_right, post_law_raised_right]
      exact fun d h => h
abbrev k_law : Nat := 4
theorem c_law (X : Defs K mg a_BadAim i_BadAim a_BadBody i_BadBody a_BadLetter i_BadLetter a_BadName i_BadName a_BadNumber i_BadNumber a_BadRow i_BadRow a_BadSaying i_BadSaying a_BadText i_BadText a_NoName i_NoName a_NotKept i_NotKept a_NotThere i_NotThere a_TakenName i_TakenName a_TooMany i_TooMany a_Unlike i_Unlike a_NothingToRedo a_NothingToUndo a_ForumError) (T : Txt K mg a_BadAim i_BadAim a_BadBody i_BadBody a_BadLetter i_BadLetter a_BadName i_BadName a_BadNumber i_BadNumber a_BadRow i_BadRow a_BadSaying i_BadSaying a_BadText i_BadText a_NoName i_NoName a_NotKept i_NotKept a_NotThere i_NotThere a_TakenName i_TakenName a_TooMany i_TooMany a_Unlike i_Unlike a_NothingToRedo a_NothingToUndo a_ForumError) {f : Addr} {fd : FuncData} (F : FunV K "law" "law" s_law f fd) : FnG P w K mg base CX0 k_law f fd ["script"] (SpLaw K) := by
  have c_law_pen := c_law_pen (P := P) (w := w) (base := base) X T
  have c_law_draw := c_law_draw (P := P) (w := w) (base := base) X T
  have c_law_raised_right := c_law_raised_right (P := P) (w := w) (base := base) X T
  have c_law_thing := c_law_thing (P := P) (w := w) (base := base) X T
  have c_law_fields_right := c_law_fields_right (P := P) (w := w) (base := base) X T
  have c_law_classes := c_law_classes (P := P) (w := w) (base := base) X T
  have o_BadAim := o_BadAim (P := P) (w := w) (base := base) X T
  have o_BadBody := o_BadBody (P := P) (w := w) (base := base) X T
  have o_BadLetter := o_BadLetter (P := P) (w := w) (base := base) X T
  have o_BadName := o_BadName (P := P) (w := w) (base := base) X T
  have o_BadNumber := o_BadNumber (P := P) (w := w) (base := base) X T
  have o_BadRow := o_BadRow (P := P) (w := w) (base := base) X T
  have o_BadSaying := o_BadSaying (P := P) (w := w) (base := base) X T
  have o_BadText := o_BadText (P := P) (w := w) (base := base) X T
  have o_NoName := o_NoName (P := P) (w := w) (base := base) X T
  have o_NotKept := o_NotKept (P := P) (w := w) (base := base) X T
  have o_NotThere := o_NotThere (P := P) (w := w) (base := base) X T
  have o_TakenName := o_TakenName (P := P) (w := w) (base := base) X T
  have o_TooMany := o_TooMany (P := P) (w := w) (base := base) X T
  have o_Unlike := o_Unlike (P := P) (w := w) (base := base) X T
  refine fng_raw (N := N_law) F sc_law (fun vs H Q E h => ?_) (fun f cdv A outer s H vs Q E hr ng h => ?_)
  · obtain ⟨a, ns, rfl, _⟩ := h; rfl
  · obtain ⟨a, ns, rfl, hs, hl, q⟩ := h
    obtain ⟨t, ht, et⟩ : ∃ t, PSs (cxOf CX0 P w K mg base N_law "law" (defScope s_law) f cdv A outer s H E).nox (defBody s_law) t ∧ t = tSeq (tAsg (tCall (SpPen K) [] L2.E0 (tCons (tVar 0) tNil)) (gName 1)) (u_law T).t := ⟨_, (pss_cons (ps_set (i := 1) sc_law.nd rfl (Or.inl rfl) (peg_cal c_law_pen hr (by decide) ng rfl (pa_cons (pv 0) pa_nil)))
 (pss_cons (ps_for PassesOwn.never rfl (pi_range1 rfl T.b_range (pa_cons pe_int pa_nil)) (pg_name (i := 2) sc_law.nd rfl (Or.inl rfl)) (pss_one (ps_if (pt_not (pt_val (peg_cal c_law_fields_right hr (by decide) ng rfl (pa_cons (peg_cal c_law_thing hr (by decide) ng rfl (pa_cons (pv 1) pa_nil)) (pa_cons (peg_cal c_law_thing hr (by decide) ng rfl (pa_cons (pv 1) pa_nil)) pa_nil))))) (pss_one (ps_ret pe_bl)) pss_nil)))
 (pss_cons (ps_set (i := 3) sc_law.nd rfl (Or.inl rfl) (peg_cal c_law_draw hr (by decide) ng rfl (pa_cons (pv 1) (pa_cons pe_int pa_nil))))
 (pss_cons (ps_par rfl sc_law.nd rfl rfl (by decide) rfl rfl (pa_cons (pe_lst (pa_cons (pe_lst (pa_cons pe_int (pa_cons pe_int pa_nil))) (pa_cons (pe_lst (pa_cons (pv 3) pa_nil)) pa_nil))) (pa_cons (pe_lst (pa_cons (pe_lst (pa_cons pe_int (pa_cons pe_int pa_nil))) (pa_cons (pe_lst (pa_cons (pv 3) pa_nil)) (pa_cons pe_int pa_nil)))) pa_nil)) (by rfl))
 (pss_cons (ps_set (i := 6) sc_law.nd rfl (Or.inl rfl) (pe_lst (pa_cons (pe_mkE o_BadRow hr (by decide) rfl (pa_cons pe_str (pa_cons (pv 4) pa_nil))) (pa_cons (pe_mkE o_BadText hr (by decide) rfl (pa_cons pe_int (pa_cons (pv 4) pa_nil))) (pa_cons (pe_mkE o_NotKept hr (by decide) rfl (pa_cons pe_str (pa_cons (pv 4) pa_nil))) (pa_cons (pe_mkE o_BadSaying hr (by decide) rfl (pa_cons (pv 4) pa_nil)) (pa_cons (pe_mkE o_TooMany hr (by decide) rfl (pa_cons pe_str (pa_cons (pv 4) (pa_cons pe_int pa_nil)))) pa_nil)))))))
 (pss_cons (ps_expr (pe_bm PySem.F.plainAttrs_list PySem.F.slot_list_append PySem.F.type_list_append mt_append (pv 4) (pa_cons pe_int pa_nil)))
 (pss_cons (ps_if (pt_cmpR (op_neDk (K := K) (Room.units hr)) (pe_lst (pa_cons (pe_fldX (pe_ix (ix_seqk (K := K)) (pv 6) pe_int (fun _ _ => rfl))) (pa_cons (pe_fldX (pe_ix (ix_seqk (K := K)) (pv 6) pe_int (fun _ _ => rfl))) (pa_cons (pe_fldX (pe_ix (ix_seqk (K := K)) (pv 6) pe_int (fun _ _ => rfl))) (pa_cons (pe_fldX (pe_ix (ix_seqk (K := K)) (pv 6) pe_int (fun _ _ => rfl))) (pa_cons (pe_fldX (pe_ix (ix_seqk (K := K)) (pv 6) pe_int (fun _ _ => rfl))) pa_nil)))))) (pe_op (op_mulUk (K := K)) (pe_lst (pa_cons (pv 5) pa_nil)) pe_int) (nomark _)) (pss_one (ps_ret pe_bl)) pss_nil)
 (pss_cons (ps_par rfl sc_law.nd rfl rfl (by decide) rfl rfl (pa_cons (peg_cal c_law_thing hr (by decide) ng rfl (pa_cons (pv 1) pa_nil)) (pa_cons (peg_cal c_law_thing hr (by decide) ng rfl (pa_cons (pv 1) pa_nil)) pa_nil)) (by rfl))
 (pss_cons (ps_set (i := 9) sc_law.nd rfl (Or.inl rfl) (pe_lst (pa_cons (pe_mkE o_BadText hr (by decide) rfl (pa_cons (pv 7) (pa_cons (pv 8) pa_nil))) (pa_cons (pe_mkE o_BadName hr (by decide) rfl (pa_cons (pv 7) pa_nil)) (pa_cons (pe_mkE o_BadNumber hr (by decide) rfl (pa_cons (pv 7) (pa_cons (pv 8) pa_nil))) (pa_cons (pe_mkE o_BadSaying hr (by decide) rfl (pa_cons (pv 7) pa_nil)) (pa_cons (pe_mkE o_BadLetter hr (by decide) rfl (pa_cons (pv 7) pa_nil)) (pa_cons (pe_mkE o_BadBody hr (by decide) rfl (pa_cons (pv 7) pa_nil)) pa_nil))))))))
 (pss_cons (ps_set (i := 9) sc_law.nd rfl (Or.inl rfl) (pe_op (op_addUk (K := K)) (pv 9) (pe_lst (pa_cons (pe_mkE o_BadAim hr (by decide) rfl (pa_cons (pv 7) pa_nil)) (pa_cons (pe_mkE o_BadRow hr (by decide) rfl (pa_cons (pv 7) (pa_cons (pv 8) pa_nil))) (pa_cons (pe_mkE o_NoName hr (by decide) rfl (pa_cons (pv 7) pa_nil)) (pa_cons (pe_mkE o_TakenName hr (by decide) rfl (pa_cons (pv 7) pa_nil)) (pa_cons (pe_mkE o_Unlike hr (by decide) rfl (pa_cons (pv 7) pa_nil)) (pa_cons (pe_mkE o_NotThere hr (by decide) rfl (pa_cons (pv 7) pa_nil)) pa_nil)))))))))
 (pss_cons (ps_set (i := 9) sc_law.nd rfl (Or.inl rfl) (pe_op (op_addUk (K := K)) (pv 9) (pe_lst (pa_cons (pe_mkE o_TooMany hr (by decide) rfl (pa_cons (pv 7) (pa_cons (pv 8) (pa_cons (pv 7) pa_nil)))) (pa_cons (pe_mkE o_NotKept hr (by decide) rfl (pa_cons (pv 7) (pa_cons (pv 8) pa_nil))) (pa_cons (pe_mkE0 T.y_NothingToUndo rfl) (pa_cons (pe_mkE0 T.y_NothingToRedo rfl) pa_nil)))))))
 (pss_cons (ps_for PassesOwn.never rfl (pi_enum (by rfl) T.b_enumerate (pa_cons (pv 9) pa_nil)) (pg_tupk (K := K) rfl (pgs_cons (pg_name (i := 10) sc_law.nd rfl (Or.inr rfl)) (pgs_cons (pg_name (i := 11) sc_law.nd rfl (Or.inl rfl)) pgs_nil))) (pss_cons (ps_if (pt_cmpR (op_neDk (K := K) (Room.units hr)) (peg_cal c_law_classes hr (by decide) ng rfl (pa_cons (pv 11) pa_nil)) (pe_lc (own := [("j", 12)]) (g := (gName 12)) (tt := tYes) (by rfl) sc_law.nd (pi_range1 rfl T.b_range (pa_cons pe_int pa_nil)) (blkOk_by (own := [("j", 12)]) (N := N_law) (sc := defScope s_law) (by decide +kernel)) (fun _ _ _ _ _ => (pg_name (i := 12) sc_law.nd rfl (Or.inl rfl))) (fun _ _ _ _ _ => pts_nil) (fun _ _ _ _ _ => (pe_cmpR (op_eqDk (K := K) (Room.units hr)) (pv 10) (pv 12) (nomark _)))) (nomark _)) (pss_one (ps_ret pe_bl)) pss_nil)
 (pss_one (ps_if (PW.pt (pw_or (pt_not (pt_val (pe_callB call_isX (by rfl) T.b_isinstance (by decide +kernel) (pa_cons (pv 11) (pa_cons (pe_globE (v := .ref a_ForumError) rfl ⟨_, T.m_ForumError, rfl⟩) pa_nil))))) (pw_or1 (pt_not (pt_val (pe_callB call_isX (by rfl) T.b_isinstance (by decide +kernel) (pa_cons (pv 11) (pa_cons (pe_bltn (v := .ty "ValueError") (by rfl) T.b_ValueError (by decide +kernel) rfl) pa_nil)))))))) (pss_one (ps_ret pe_bl)) pss_nil))))
 (pss_one (ps_ret (peg_cal c_law_raised_right hr (by decide) ng rfl (pa_cons (peg_cal c_law_thing hr (by decide) ng rfl (pa_cons (pv 1) pa_nil)) pa_nil)))))))))))))))), rfl⟩
    subst et
    refine ⟨_, ht, ?_⟩
    exact law_start (n := 11) (m := (u_law T).m) rfl (Nat.le_of_ble_eq_true (by kernel_rfl)) hs hl (fun p c => (u_law T).ok (v_law T)) q
end
end K01
set_option maxRecDepth 100000
set_option maxHeartbeats 8000000
local macro_rules | `(tactic| walk_at "q_is") => `(tactic| (first | delta L2.KOf | skip); k_is)
open PySem PySem.W PyProof.Rows L2 DL K01 in
set_option maxRecDepth 100000 in
set_option maxHeartbeats 0 in
theorem PySem.Challenge.cw_lentvoices_k01_errors_holds : PySem.Challenge.rw_lentvoices_k01_errors.Holds := by
  w_on; o_law; k_head; (case hw => w_witness2)
  k_fill
  refine walk_ofG (l := PySem.Challenge.rw_lentvoices_k01_errors) (n := 63) (k := k_law) (x := "script") (sp := fun K => SpLaw K) rfl (by decide) rfl ⟨rfl, by decide, by decide⟩ (fun w h Y => PySem.W.kIn_of Y) ?F (fun K H a ns hl _ hS => ⟨a, ns, rfl, hS, hl, fun _ => rfl⟩)
  case F =>
    intro w mg fa h KX G hmg
    have b_ValueError : mg "ValueError" = none := by refine' PySem.W.mg_none_of KX G ?a_2; (case a_2 => walk_at "q_is")
    have b_enumerate : mg "enumerate" = none := by refine' PySem.W.mg_none_of KX G ?a_3; (case a_3 => walk_at "q_is")
    have b_int : mg "int" = none := by refine' PySem.W.mg_none_of KX G ?a_4; (case a_4 => walk_at "q_is")
    have b_isinstance : mg "isinstance" = none := by refine' PySem.W.mg_none_of KX G ?a_5; (case a_5 => walk_at "q_is")
    have b_len : mg "len" = none := by refine' PySem.W.mg_none_of KX G ?a_6; (case a_6 => walk_at "q_is")
    have b_list : mg "list" = none := by refine' PySem.W.mg_none_of KX G ?a_7; (case a_7 => walk_at "q_is")
    have b_range : mg "range" = none := by refine' PySem.W.mg_none_of KX G ?a_8; (case a_8 => walk_at "q_is")
    refine' own_then (x := "BadAim") (st := s_BadAim___init__) (ps := ["self", "index"]) (qual := "BadAim.__init__") (ns := ["index"]) KX G ?aC_9 ?xL_9 ?ve_9 ?sa_9 ?ga_9 ?gg_9 ?no_9 ?a1_9 ?t1_9 ?l_9 ?c_9 ?k_9 ?kC_9 ?eC_9 ?tC_9 ?hC_9 ?iC_9 ?sC_9 (fun _ _ _ _ _ _ us hl => match us, hl with | [_, _], _ => rfl) (fun x_BadAim e_BadAim => ?rest_9)
    (case aC_9 => walk_at "q_is"); (case xL_9 => walk_at "q_is"); (case ve_9 => decide +kernel); (case sa_9 => walk_at "q_is"); (case ga_9 => walk_at "q_is"); (case gg_9 => walk_at "q_is")
    (case no_9 => intro f hf; simp only [List.mem_cons, List.not_mem_nil, or_false] at hf; subst hf; walk_at "q_is")
    (case a1_9 => walk_at "q_is"); (case t1_9 => walk_at "q_is"); (case l_9 => walk_at "q_is"); (case c_9 => walk_at "q_is"); (case k_9 => walk_at "q_is"); (case kC_9 => walk_at "q_is"); (case eC_9 => walk_at "q_is"); (case tC_9 => walk_at "q_is"); (case hC_9 => walk_at "q_is"); (case iC_9 => walk_at "q_is"); (case sC_9 => first | rfl | walk_at "q_is")
    refine' own_then (x := "BadBody") (st := s_BadBody___init__) (ps := ["self", "body"]) (qual := "BadBody.__init__") (ns := ["body"]) KX G ?aC_10 ?xL_10 ?ve_10 ?sa_10 ?ga_10 ?gg_10 ?no_10 ?a1_10 ?t1_10 ?l_10 ?c_10 ?k_10 ?kC_10 ?eC_10 ?tC_10 ?hC_10 ?iC_10 ?sC_10 (fun _ _ _ _ _ _ us hl => match us, hl with | [_, _], _ => rfl) (fun x_BadBody e_BadBody => ?rest_10)
    (case aC_10 => walk_at "q_is"); (case xL_10 => walk_at "q_is"); (case ve_10 => decide +kernel); (case sa_10 => walk_at "q_is"); (case ga_10 => walk_at "q_is"); (case gg_10 => walk_at "q_is")
    (case no_10 => intro f hf; simp only [List.mem_cons, List.not_mem_nil, or_false] at hf; subst hf; walk_at "q_is")
    (case a1_10 => walk_at "q_is"); (case t1_10 => walk_at "q_is"); (case l_10 => walk_at "q_is"); (case c_10 => walk_at "q_is"); (case k_10 => walk_at "q_is"); (case kC_10 => walk_at "q_is"); (case eC_10 => walk_at "q_is"); (case tC_10 => walk_at "q_is"); (case hC_10 => walk_at "q_is"); (case iC_10 => walk_at "q_is"); (case sC_10 => first | rfl | walk_at "q_is")
    refine' own_then (x := "BadLetter") (st := s_BadLetter___init__) (ps := ["self", "index"]) (qual := "BadLetter.__init__") (ns := ["index"]) KX G ?aC_11 ?xL_11 ?ve_11 ?sa_11 ?ga_11 ?gg_11 ?no_11 ?a1_11 ?t1_11 ?l_11 ?c_11 ?k_11 ?kC_11 ?eC_11 ?tC_11 ?hC_11 ?iC_11 ?sC_11 (fun _ _ _ _ _ _ us hl => match us, hl with | [_, _], _ => rfl) (fun x_BadLetter e_BadLetter => ?rest_11)
    (case aC_11 => walk_at "q_is"); (case xL_11 => walk_at "q_is"); (case ve_11 => decide +kernel); (case sa_11 => walk_at "q_is"); (case ga_11 => walk_at "q_is"); (case gg_11 => walk_at "q_is")
    (case no_11 => intro f hf; simp only [List.mem_cons, List.not_mem_nil, or_false] at hf; subst hf; walk_at "q_is")
    (case a1_11 => walk_at "q_is"); (case t1_11 => walk_at "q_is"); (case l_11 => walk_at "q_is"); (case c_11 => walk_at "q_is"); (case k_11 => walk_at "q_is"); (case kC_11 => walk_at "q_is"); (case eC_11 => walk_at "q_is"); (case tC_11 => walk_at "q_is"); (case hC_11 => walk_at "q_is"); (case iC_11 => walk_at "q_is"); (case sC_11 => first | rfl | walk_at "q_is")
    refine' own_then (x := "BadName") (st := s_BadName___init__) (ps := ["self", "name"]) (qual := "BadName.__init__") (ns := ["name"]) KX G ?aC_12 ?xL_12 ?ve_12 ?sa_12 ?ga_12 ?gg_12 ?no_12 ?a1_12 ?t1_12 ?l_12 ?c_12 ?k_12 ?kC_12 ?eC_12 ?tC_12 ?hC_12 ?iC_12 ?sC_12 (fun _ _ _ _ _ _ us hl => match us, hl with | [_, _], _ => rfl) (fun x_BadName e_BadName => ?rest_12)
    (case aC_12 => walk_at "q_is"); (case xL_12 => walk_at "q_is"); (case ve_12 => decide +kernel); (case sa_12 => walk_at "q_is"); (case ga_12 => walk_at "q_is"); (case gg_12 => walk_at "q_is")
    (case no_12 => intro f hf; simp only [List.mem_cons, List.not_mem_nil, or_false] at hf; subst hf; walk_at "q_is")
    (case a1_12 => walk_at "q_is"); (case t1_12 => walk_at "q_is"); (case l_12 => walk_at "q_is"); (case c_12 => walk_at "q_is"); (case k_12 => walk_at "q_is"); (case kC_12 => walk_at "q_is"); (case eC_12 => walk_at "q_is"); (case tC_12 => walk_at "q_is"); (case hC_12 => walk_at "q_is"); (case iC_12 => walk_at "q_is"); (case sC_12 => first | rfl | walk_at "q_is")
    refine' own_then (x := "BadNumber") (st := s_BadNumber___init__) (ps := ["self", "what", "number"]) (qual := "BadNumber.__init__") (ns := ["what", "number"]) KX G ?aC_13 ?xL_13 ?ve_13 ?sa_13 ?ga_13 ?gg_13 ?no_13 ?a1_13 ?t1_13 ?l_13 ?c_13 ?k_13 ?kC_13 ?eC_13 ?tC_13 ?hC_13 ?iC_13 ?sC_13 (fun _ _ _ _ _ _ us hl => match us, hl with | [_, _, _], _ => rfl) (fun x_BadNumber e_BadNumber => ?rest_13)
    (case aC_13 => walk_at "q_is"); (case xL_13 => walk_at "q_is"); (case ve_13 => decide +kernel); (case sa_13 => walk_at "q_is"); (case ga_13 => walk_at "q_is"); (case gg_13 => walk_at "q_is")
    (case no_13 => intro f hf; simp only [List.mem_cons, List.not_mem_nil, or_false] at hf; rcases hf with rfl | rfl <;> walk_at "q_is")
    (case a1_13 => walk_at "q_is"); (case t1_13 => walk_at "q_is"); (case l_13 => walk_at "q_is"); (case c_13 => walk_at "q_is"); (case k_13 => walk_at "q_is"); (case kC_13 => walk_at "q_is"); (case eC_13 => walk_at "q_is"); (case tC_13 => walk_at "q_is"); (case hC_13 => walk_at "q_is"); (case iC_13 => walk_at "q_is"); (case sC_13 => first | rfl | walk_at "q_is")
    refine' own_then (x := "BadRow") (st := s_BadRow___init__) (ps := ["self", "what", "row"]) (qual := "BadRow.__init__") (ns := ["what", "row"]) KX G ?aC_14 ?xL_14 ?ve_14 ?sa_14 ?ga_14 ?gg_14 ?no_14 ?a1_14 ?t1_14 ?l_14 ?c_14 ?k_14 ?kC_14 ?eC_14 ?tC_14 ?hC_14 ?iC_14 ?sC_14 (fun _ _ _ _ _ _ us hl => match us, hl with | [_, _, _], _ => rfl) (fun x_BadRow e_BadRow => ?rest_14)
    (case aC_14 => walk_at "q_is"); (case xL_14 => walk_at "q_is"); (case ve_14 => decide +kernel); (case sa_14 => walk_at "q_is"); (case ga_14 => walk_at "q_is"); (case gg_14 => walk_at "q_is")
    (case no_14 => intro f hf; simp only [List.mem_cons, List.not_mem_nil, or_false] at hf; rcases hf with rfl | rfl <;> walk_at "q_is")
    (case a1_14 => walk_at "q_is"); (case t1_14 => walk_at "q_is"); (case l_14 => walk_at "q_is"); (case c_14 => walk_at "q_is"); (case k_14 => walk_at "q_is"); (case kC_14 => walk_at "q_is"); (case eC_14 => walk_at "q_is"); (case tC_14 => walk_at "q_is"); (case hC_14 => walk_at "q_is"); (case iC_14 => walk_at "q_is"); (case sC_14 => first | rfl | walk_at "q_is")
    refine' own_then (x := "BadSaying") (st := s_BadSaying___init__) (ps := ["self", "saying"]) (qual := "BadSaying.__init__") (ns := ["saying"]) KX G ?aC_15 ?xL_15 ?ve_15 ?sa_15 ?ga_15 ?gg_15 ?no_15 ?a1_15 ?t1_15 ?l_15 ?c_15 ?k_15 ?kC_15 ?eC_15 ?tC_15 ?hC_15 ?iC_15 ?sC_15 (fun _ _ _ _ _ _ us hl => match us, hl with | [_, _], _ => rfl) (fun x_BadSaying e_BadSaying => ?rest_15)
    (case aC_15 => walk_at "q_is"); (case xL_15 => walk_at "q_is"); (case ve_15 => decide +kernel); (case sa_15 => walk_at "q_is"); (case ga_15 => walk_at "q_is"); (case gg_15 => walk_at "q_is")
    (case no_15 => intro f hf; simp only [List.mem_cons, List.not_mem_nil, or_false] at hf; subst hf; walk_at "q_is")
    (case a1_15 => walk_at "q_is"); (case t1_15 => walk_at "q_is"); (case l_15 => walk_at "q_is"); (case c_15 => walk_at "q_is"); (case k_15 => walk_at "q_is"); (case kC_15 => walk_at "q_is"); (case eC_15 => walk_at "q_is"); (case tC_15 => walk_at "q_is"); (case hC_15 => walk_at "q_is"); (case iC_15 => walk_at "q_is"); (case sC_15 => first | rfl | walk_at "q_is")
    refine' own_then (x := "BadText") (st := s_BadText___init__) (ps := ["self", "line", "word"]) (qual := "BadText.__init__") (ns := ["line", "word"]) KX G ?aC_16 ?xL_16 ?ve_16 ?sa_16 ?ga_16 ?gg_16 ?no_16 ?a1_16 ?t1_16 ?l_16 ?c_16 ?k_16 ?kC_16 ?eC_16 ?tC_16 ?hC_16 ?iC_16 ?sC_16 (fun _ _ _ _ _ _ us hl => match us, hl with | [_, _, _], _ => rfl) (fun x_BadText e_BadText => ?rest_16)
    (case aC_16 => walk_at "q_is"); (case xL_16 => walk_at "q_is"); (case ve_16 => decide +kernel); (case sa_16 => walk_at "q_is"); (case ga_16 => walk_at "q_is"); (case gg_16 => walk_at "q_is")
    (case no_16 => intro f hf; simp only [List.mem_cons, List.not_mem_nil, or_false] at hf; rcases hf with rfl | rfl <;> walk_at "q_is")
    (case a1_16 => walk_at "q_is"); (case t1_16 => walk_at "q_is"); (case l_16 => walk_at "q_is"); (case c_16 => walk_at "q_is"); (case k_16 => walk_at "q_is"); (case kC_16 => walk_at "q_is"); (case eC_16 => walk_at "q_is"); (case tC_16 => walk_at "q_is"); (case hC_16 => walk_at "q_is"); (case iC_16 => walk_at "q_is"); (case sC_16 => first | rfl | walk_at "q_is")
    refine' own_then (x := "NoName") (st := s_NoName___init__) (ps := ["self", "name"]) (qual := "NoName.__init__") (ns := ["name"]) KX G ?aC_17 ?xL_17 ?ve_17 ?sa_17 ?ga_17 ?gg_17 ?no_17 ?a1_17 ?t1_17 ?l_17 ?c_17 ?k_17 ?kC_17 ?eC_17 ?tC_17 ?hC_17 ?iC_17 ?sC_17 (fun _ _ _ _ _ _ us hl => match us, hl with | [_, _], _ => rfl) (fun x_NoName e_NoName => ?rest_17)
    (case aC_17 => walk_at "q_is"); (case xL_17 => walk_at "q_is"); (case ve_17 => decide +kernel); (case sa_17 => walk_at "q_is"); (case ga_17 => walk_at "q_is"); (case gg_17 => walk_at "q_is")
    (case no_17 => intro f hf; simp only [List.mem_cons, List.not_mem_nil, or_false] at hf; subst hf; walk_at "q_is")
    (case a1_17 => walk_at "q_is"); (case t1_17 => walk_at "q_is"); (case l_17 => walk_at "q_is"); (case c_17 => walk_at "q_is"); (case k_17 => walk_at "q_is"); (case kC_17 => walk_at "q_is"); (case eC_17 => walk_at "q_is"); (case tC_17 => walk_at "q_is"); (case hC_17 => walk_at "q_is"); (case iC_17 => walk_at "q_is"); (case sC_17 => first | rfl | walk_at "q_is")
    refine' own_then (x := "NotKept") (st := s_NotKept___init__) (ps := ["self", "promise", "witness"]) (qual := "NotKept.__init__") (ns := ["promise", "witness"]) KX G ?aC_18 ?xL_18 ?ve_18 ?sa_18 ?ga_18 ?gg_18 ?no_18 ?a1_18 ?t1_18 ?l_18 ?c_18 ?k_18 ?kC_18 ?eC_18 ?tC_18 ?hC_18 ?iC_18 ?sC_18 (fun _ _ _ _ _ _ us hl => match us, hl with | [_, _, _], _ => rfl) (fun x_NotKept e_NotKept => ?rest_18)
    (case aC_18 => walk_at "q_is"); (case xL_18 => walk_at "q_is"); (case ve_18 => decide +kernel); (case sa_18 => walk_at "q_is"); (case ga_18 => walk_at "q_is"); (case gg_18 => walk_at "q_is")
    (case no_18 => intro f hf; simp only [List.mem_cons, List.not_mem_nil, or_false] at hf; rcases hf with rfl | rfl <;> walk_at "q_is")
    (case a1_18 => walk_at "q_is"); (case t1_18 => walk_at "q_is"); (case l_18 => walk_at "q_is"); (case c_18 => walk_at "q_is"); (case k_18 => walk_at "q_is"); (case kC_18 => walk_at "q_is"); (case eC_18 => walk_at "q_is"); (case tC_18 => walk_at "q_is"); (case hC_18 => walk_at "q_is"); (case iC_18 => walk_at "q_is"); (case sC_18 => first | rfl | walk_at "q_is")
    refine' own_then (x := "NotThere") (st := s_NotThere___init__) (ps := ["self", "what"]) (qual := "NotThere.__init__") (ns := ["what"]) KX G ?aC_19 ?xL_19 ?ve_19 ?sa_19 ?ga_19 ?gg_19 ?no_19 ?a1_19 ?t1_19 ?l_19 ?c_19 ?k_19 ?kC_19 ?eC_19 ?tC_19 ?hC_19 ?iC_19 ?sC_19 (fun _ _ _ _ _ _ us hl => match us, hl with | [_, _], _ => rfl) (fun x_NotThere e_NotThere => ?rest_19)
    (case aC_19 => walk_at "q_is"); (case xL_19 => walk_at "q_is"); (case ve_19 => decide +kernel); (case sa_19 => walk_at "q_is"); (case ga_19 => walk_at "q_is"); (case gg_19 => walk_at "q_is")
    (case no_19 => intro f hf; simp only [List.mem_cons, List.not_mem_nil, or_false] at hf; subst hf; walk_at "q_is")
    (case a1_19 => walk_at "q_is"); (case t1_19 => walk_at "q_is"); (case l_19 => walk_at "q_is"); (case c_19 => walk_at "q_is"); (case k_19 => walk_at "q_is"); (case kC_19 => walk_at "q_is"); (case eC_19 => walk_at "q_is"); (case tC_19 => walk_at "q_is"); (case hC_19 => walk_at "q_is"); (case iC_19 => walk_at "q_is"); (case sC_19 => first | rfl | walk_at "q_is")
    refine' own_then (x := "TakenName") (st := s_TakenName___init__) (ps := ["self", "name"]) (qual := "TakenName.__init__") (ns := ["name"]) KX G ?aC_20 ?xL_20 ?ve_20 ?sa_20 ?ga_20 ?gg_20 ?no_20 ?a1_20 ?t1_20 ?l_20 ?c_20 ?k_20 ?kC_20 ?eC_20 ?tC_20 ?hC_20 ?iC_20 ?sC_20 (fun _ _ _ _ _ _ us hl => match us, hl with | [_, _], _ => rfl) (fun x_TakenName e_TakenName => ?rest_20)
    (case aC_20 => walk_at "q_is"); (case xL_20 => walk_at "q_is"); (case ve_20 => decide +kernel); (case sa_20 => walk_at "q_is"); (case ga_20 => walk_at "q_is"); (case gg_20 => walk_at "q_is")
    (case no_20 => intro f hf; simp only [List.mem_cons, List.not_mem_nil, or_false] at hf; subst hf; walk_at "q_is")
    (case a1_20 => walk_at "q_is"); (case t1_20 => walk_at "q_is"); (case l_20 => walk_at "q_is"); (case c_20 => walk_at "q_is"); (case k_20 => walk_at "q_is"); (case kC_20 => walk_at "q_is"); (case eC_20 => walk_at "q_is"); (case tC_20 => walk_at "q_is"); (case hC_20 => walk_at "q_is"); (case iC_20 => walk_at "q_is"); (case sC_20 => first | rfl | walk_at "q_is")
    refine' own_then (x := "TooMany") (st := s_TooMany___init__) (ps := ["self", "what", "many", "limit"]) (qual := "TooMany.__init__") (ns := ["what", "many", "limit"]) KX G ?aC_21 ?xL_21 ?ve_21 ?sa_21 ?ga_21 ?gg_21 ?no_21 ?a1_21 ?t1_21 ?l_21 ?c_21 ?k_21 ?kC_21 ?eC_21 ?tC_21 ?hC_21 ?iC_21 ?sC_21 (fun _ _ _ _ _ _ us hl => match us, hl with | [_, _, _, _], _ => rfl) (fun x_TooMany e_TooMany => ?rest_21)
    (case aC_21 => walk_at "q_is"); (case xL_21 => walk_at "q_is"); (case ve_21 => decide +kernel); (case sa_21 => walk_at "q_is"); (case ga_21 => walk_at "q_is"); (case gg_21 => walk_at "q_is")
    (case no_21 => intro f hf; simp only [List.mem_cons, List.not_mem_nil, or_false] at hf; rcases hf with rfl | rfl | rfl <;> walk_at "q_is")
    (case a1_21 => walk_at "q_is"); (case t1_21 => walk_at "q_is"); (case l_21 => walk_at "q_is"); (case c_21 => walk_at "q_is"); (case k_21 => walk_at "q_is"); (case kC_21 => walk_at "q_is"); (case eC_21 => walk_at "q_is"); (case tC_21 => walk_at "q_is"); (case hC_21 => walk_at "q_is"); (case iC_21 => walk_at "q_is"); (case sC_21 => first | rfl | walk_at "q_is")
    refine' own_then (x := "Unlike") (st := s_Unlike___init__) (ps := ["self", "what"]) (qual := "Unlike.__init__") (ns := ["what"]) KX G ?aC_22 ?xL_22 ?ve_22 ?sa_22 ?ga_22 ?gg_22 ?no_22 ?a1_22 ?t1_22 ?l_22 ?c_22 ?k_22 ?kC_22 ?eC_22 ?tC_22 ?hC_22 ?iC_22 ?sC_22 (fun _ _ _ _ _ _ us hl => match us, hl with | [_, _], _ => rfl) (fun x_Unlike e_Unlike => ?rest_22)
    (case aC_22 => walk_at "q_is"); (case xL_22 => walk_at "q_is"); (case ve_22 => decide +kernel); (case sa_22 => walk_at "q_is"); (case ga_22 => walk_at "q_is"); (case gg_22 => walk_at "q_is")
    (case no_22 => intro f hf; simp only [List.mem_cons, List.not_mem_nil, or_false] at hf; subst hf; walk_at "q_is")
    (case a1_22 => walk_at "q_is"); (case t1_22 => walk_at "q_is"); (case l_22 => walk_at "q_is"); (case c_22 => walk_at "q_is"); (case k_22 => walk_at "q_is"); (case kC_22 => walk_at "q_is"); (case eC_22 => walk_at "q_is"); (case tC_22 => walk_at "q_is"); (case hC_22 => walk_at "q_is"); (case iC_22 => walk_at "q_is"); (case sC_22 => first | rfl | walk_at "q_is")
    refine' oexN_then (x := "NothingToRedo") KX G ?aC_23 ?q0_23 ?eC_23 ?tC_23 ?kC_23 (fun y_NothingToRedo => ?rest_23)
    (case aC_23 => walk_at "q_is"); (case q0_23 => (first | delta L2.KOf | skip); k_exc); (case eC_23 => walk_at "q_is"); (case tC_23 => walk_at "q_is"); (case kC_23 => walk_at "q_is")
    refine' oexN_then (x := "NothingToUndo") KX G ?aC_24 ?q0_24 ?eC_24 ?tC_24 ?kC_24 (fun y_NothingToUndo => ?rest_24)
    (case aC_24 => walk_at "q_is"); (case q0_24 => (first | delta L2.KOf | skip); k_exc); (case eC_24 => walk_at "q_is"); (case tC_24 => walk_at "q_is"); (case kC_24 => walk_at "q_is")
    refine' base_then (x := "ForumError") KX G ?aC_25 (fun b_ForumError => ?rest_25); (case aC_25 => walk_at "q_is")
    have et : ErrTab (KOf KX) [x_BadText.adr, x_BadName.adr, x_BadNumber.adr, x_BadSaying.adr, x_BadLetter.adr, x_BadBody.adr, x_BadAim.adr, x_BadRow.adr, x_NoName.adr, x_TakenName.adr, x_Unlike.adr, x_NotThere.adr, x_TooMany.adr, x_NotKept.adr, y_NothingToUndo.adr, y_NothingToRedo.adr] b_ForumError.adr := by
      dsimp only [OwnC.adr, OexN.adr, BaseC.adr]
      have off : Off (KOf KX) [x_BadText.adr, x_BadName.adr, x_BadNumber.adr, x_BadSaying.adr, x_BadLetter.adr, x_BadBody.adr, x_BadAim.adr, x_BadRow.adr, x_NoName.adr, x_TakenName.adr, x_Unlike.adr, x_NotThere.adr, x_TooMany.adr, x_NotKept.adr, y_NothingToUndo.adr, y_NothingToRedo.adr] := by
        dsimp only [OwnC.adr, OexN.adr, BaseC.adr]
        repeat (first | exact Off.nil | refine Off.cons (by repeat (first | exact All1.nil | refine All1.cons ⟨(by walk_at "q_is"), (by walk_at "q_is")⟩ ?_)) ?_)
      refine ⟨(by repeat (first | exact All1.nil | refine All1.cons ⟨(by walk_at "q_is"), (by walk_at "q_is"), (by walk_at "q_is"), (by walk_at "q_is"), (by walk_at "q_is"), (by walk_at "q_is"), (by walk_at "q_is"), (by walk_at "q_is")⟩ ?_)), (by repeat (first | exact All1.nil | refine All1.cons ⟨(by walk_at "q_is"), (by walk_at "q_is")⟩ ?_)), (by repeat (first | exact All1.nil | refine All1.cons (by walk_at "q_is") ?_)), off, (by repeat (first | exact All1.nil | refine All1.cons (by walk_at "q_is") ?_)), (by repeat (first | exact All1.nil | refine All1.cons (by walk_at "q_is") ?_)), (by walk_at "q_is")⟩
    have d_law_pen : Def (KOf KX) mg "_law_pen" s_law_pen ["script"] [] := by
      refine' def_mk KX G ?a_27 ?l_27 ?c_27 ?k_27 (fun _ _ _ _ _ _ us hl => match us, hl with | [_], _ => rfl); (case a_27 => walk_at "q_is"); (case l_27 => walk_at "q_is"); (case c_27 => walk_at "q_is"); (case k_27 => walk_at "q_is")
    have d_law_draw : Def (KOf KX) mg "_law_draw" s_law_draw ["pen", "many"] [] := by
      refine' def_mk KX G ?a_28 ?l_28 ?c_28 ?k_28 (fun _ _ _ _ _ _ us hl => match us, hl with | [_, _], _ => rfl); (case a_28 => walk_at "q_is"); (case l_28 => walk_at "q_is"); (case c_28 => walk_at "q_is"); (case k_28 => walk_at "q_is")
    have d_law_pick : Def (KOf KX) mg "_law_pick" s_law_pick ["pen", "some"] [] := by
      refine' def_mk KX G ?a_29 ?l_29 ?c_29 ?k_29 (fun _ _ _ _ _ _ us hl => match us, hl with | [_, _], _ => rfl); (case a_29 => walk_at "q_is"); (case l_29 => walk_at "q_is"); (case c_29 => walk_at "q_is"); (case k_29 => walk_at "q_is")
    have d_law_thing : Def (KOf KX) mg "_law_thing" s_law_thing ["pen"] [] := by
      refine' def_mk KX G ?a_30 ?l_30 ?c_30 ?k_30 (fun _ _ _ _ _ _ us hl => match us, hl with | [_], _ => rfl); (case a_30 => walk_at "q_is"); (case l_30 => walk_at "q_is"); (case c_30 => walk_at "q_is"); (case k_30 => walk_at "q_is")
    have d_law_classes : Def (KOf KX) mg "_law_classes" s_law_classes ["error"] [] := by
      refine' def_mk KX G ?a_31 ?l_31 ?c_31 ?k_31 (fun _ _ _ _ _ _ us hl => match us, hl with | [_], _ => rfl); (case a_31 => walk_at "q_is"); (case l_31 => walk_at "q_is"); (case c_31 => walk_at "q_is"); (case k_31 => walk_at "q_is")
    have d_law_raised_right : Def (KOf KX) mg "_law_raised_right" s_law_raised_right ["one"] [] := by
      refine' def_mk KX G ?a_32 ?l_32 ?c_32 ?k_32 (fun _ _ _ _ _ _ us hl => match us, hl with | [_], _ => rfl); (case a_32 => walk_at "q_is"); (case l_32 => walk_at "q_is"); (case c_32 => walk_at "q_is"); (case k_32 => walk_at "q_is")
    have d_law_fields_right : Def (KOf KX) mg "_law_fields_right" s_law_fields_right ["one", "other"] [] := by
      refine' def_mk KX G ?a_33 ?l_33 ?c_33 ?k_33 (fun _ _ _ _ _ _ us hl => match us, hl with | [_, _], _ => rfl); (case a_33 => walk_at "q_is"); (case l_33 => walk_at "q_is"); (case c_33 => walk_at "q_is"); (case k_33 => walk_at "q_is")
    obtain ⟨fd, hb, F⟩ : ∃ fd : FuncData, (∀ (s : Shared) (u : Value), BindsTo s fd ⟨[u], []⟩ [("script", u)]) ∧ FunV (KOf KX) "law" "law" s_law fa fd := by
      refine' law_mk KX G hmg ?a_34 ?l_34 ?c_34 ?k_34 (fun _ _ _ _ _ _ _ => rfl); (case a_34 => walk_at "q_is"); (case l_34 => walk_at "q_is"); (case c_34 => walk_at "q_is"); (case k_34 => walk_at "q_is")
    have d_law : Def (KOf KX) mg "law" s_law ["script"] [] := by
      refine' def_mk KX G ?a_35 ?l_35 ?c_35 ?k_35 (fun _ _ _ _ _ _ us hl => match us, hl with | [_], _ => rfl); (case a_35 => walk_at "q_is"); (case l_35 => walk_at "q_is"); (case c_35 => walk_at "q_is"); (case k_35 => walk_at "q_is")
    have T : Txt (KOf KX) mg _ _ _ _ _ _ _ _ _ _ _ _ _ _ _ _ _ _ _ _ _ _ _ _ _ _ _ _ _ _ _ := ⟨b_ValueError, b_enumerate, b_int, b_isinstance, b_len, b_list, b_range, x_BadAim, x_BadBody, x_BadLetter, x_BadName, x_BadNumber, x_BadRow, x_BadSaying, x_BadText, x_NoName, x_NotKept, x_NotThere, x_TakenName, x_TooMany, x_Unlike, y_NothingToRedo, y_NothingToUndo, b_ForumError.m, et⟩
    exact ⟨fd, hb, fun base _ _ => c_law ⟨e_BadAim, e_BadBody, e_BadLetter, e_BadName, e_BadNumber, e_BadRow, e_BadSaying, e_BadText, e_NoName, e_NotKept, e_NotThere, e_TakenName, e_TooMany, e_Unlike, d_law_pen, d_law_draw, d_law_pick, d_law_thing, d_law_classes, d_law_raised_right, d_law_fields_right, d_law⟩ T F⟩
