import PyProof.Rows.All
import Wide.All
import OpenK.AllK
import Wide.FinOn
import HandS.Base
import HandS.Call
import HandS.List
import HandS.Exc
import HandS.ExcInit
import HandS.ExcField
import HandS.ExcIs
import HandS.ExcValue
import HandS.IsInst
import KE.KExcIs
import PyProof.Rows.SortKeyStr
import KE.KSortTup
import HandS.ForMost
import HandS.SortOrd
import HandS.SortRule
import HandS.SortInts
import HandS.SetFor
import HandS.SetKeys
import HandS.Gcd
import HandS.TupSets
import KE.GoesEnum
import HandS.Iter
import HandS.TupAny
import HandS.Style
import HandS.NoneIn
import HandS.Zip
import HandS.Lambda
import PyProof.ReprRoads
import HandS.RaiseMore
import HandS.TupMul
import HandS.Wide
import HandS.ExcOwn
import HandS.CallSlots
import HandS.WordsExc
import HandS.Defaults
import HandS.TryMany
import HandS.EndTab
import KE.KNestM
import HandS.DictEq
import HandS.DeepEq
import HandS.Deep
import PyProof.P3In
import PySem.Challenge.RW_lentvoices_k67_bodies_judged
set_option Elab.async false
set_option linter.all false
set_option maxRecDepth 100000
set_option maxHeartbeats 4000000
/-! ExV: exceptions as values, whatever made them. -/
namespace DL
open PySem PySem.Spec L2
/-- at a stands an exception of the class cls with the dict d -/
def ExK (cls : Value) (d : Option Addr) (a : Addr) : HO := .ext fun h => ∃ (oe : Obj) (vs : Array Value), h.get? a = some oe ∧ Zc cls d oe ∧ oe.data = .fields vs
theorem exK_ok {P : Program} {w : World} {H : Hp} {h : Heap} {a : Addr} {cls : Value} {d : Option Addr} {oe : Obj} {vs : Array Value} (e : h.get? a = some oe) (z : Zc cls d oe) (q : oe.data = .fields vs) : ObjOk P w H h a (ExK cls d a) :=
  ⟨⟨oe, vs, e, z, q⟩, ⟨oe, e⟩, fun _ _ ⟨o, v, x, r⟩ k => ⟨o, v, k o x, r⟩⟩
theorem exK_at {P : Program} {w : World} {H : Hp} {h : Heap} {a : Addr} {cls : Value} {d : Option Addr} (ok : HOk P w H h) (e : H a = some (ExK cls d a)) : ∃ (oe : Obj) (vs : Array Value), h.get? a = some oe ∧ Zc cls d oe ∧ oe.data = .fields vs := by
  have x : ObjOk P w H h a (.ext fun h => ∃ (oe : Obj) (vs : Array Value), h.get? a = some oe ∧ Zc cls d oe ∧ oe.data = .fields vs) := ok a _ e
  exact x.1
section
variable {X : Cx} {e : Expr} {te : TE}
/-- a made exception, kept -/
def tKeep (r : L2.St → Hp → XK → Prop) : TE := fun σ H Q => r σ H fun cls d H' => ∀ a, H' a = none → Q (.ref a) (upd H' a (ExK cls d a))
theorem pe_keep {r : L2.St → Hp → XK → Prop} (h : PMk X e r) : PE X e (tKeep r) := by
  refine ⟨fun pins s σ H Q I t => wpAny_mono (h pins s σ H _ I t) (fun u s1 hu => ?_) fun _ _ x => x⟩
  obtain ⟨a, oe, vs, sI, H', cls, d, rfl, J, k, hne, ha, hz, hd, _, na, os, ag, _, q⟩ := hu
  obtain ⟨hp, g, dr, tk, o1⟩ := s1
  obtain ⟨hp', g', dr', tk', o2⟩ := sI
  cases os
  have J2 : Inv X pins σ (upd H' a (ExK cls d a)) ⟨hp, g', dr', tk, o1⟩ := J.un (t' := tk) (Un.laidN k hne na) (J.hok.laidN k na (exK_ok ha hz hd))
  exact ⟨.ref a, _, ⟨J2.ok, J2.os, ag, J2.base, J2.loc, J2.cell, J2.free, J2.freeC, J2.pin, J2.hok, J2.len⟩, rfl, q a na⟩
/-- v.n, v a kept exception with a dict -/
def tFldK (C : Addr) (n : Str) (te : TE) : TE := fun σ H Q => te σ H fun x H1 => ∃ (a dd : Addr) (fs : List (Str × V)) (v : V), x = .ref a ∧ H1 a = some (ExK (.ref C) (some dd) a) ∧ H1 dd = some (.xd fs) ∧ fs.lookup n = some v ∧ Q v H1
theorem pe_fldK {C : Addr} {n : Str} {pos : Pos} (T : XfC X.K C) (hno : PySem.W.findIn X.K (.ref C) n = some none) (he : PE X e te) (hb : attributeBase e n X.env (eval e X.env) = eval e X.env := by rfl) : PE X (.Attribute e n pos) (tFldK C n te) := by
  refine ⟨fun pins s σ H Q I h => attr_of hb (thn (he.run pins s σ H _ I h) fun u s1 hh => ?_)⟩
  obtain ⟨x, H1, I1, rx, a, dd, fs, v, rfl, ha, hd, l, q⟩ := hh
  cases rx
  obtain ⟨oe, vs, g1, g2, g3⟩ := exK_at I1.hok ha
  have hx : ObjOk X.prog X.w H1 s1.heap dd (.xd fs) := I1.hok dd _ hd
  obtain ⟨mA, hns, hr⟩ := hx
  obtain ⟨od, ho, hl⟩ := lookIn_ns hns
  obtain ⟨u, hu, ru⟩ := RelO.some_of (v := v) (o := mA n) (by rw [← l]; exact hr n)
  have nc : PySem.W.notCls oe := by unfold PySem.W.notCls; rw [g3] <;> rfl
  exact HandSPX.exc_get I1.kIn (od := some od) ⟨g1, g2.1, nc, by rw [g2.2]; exact ho⟩ T.ga T.gg T.exC (PySem.W.findObj_own T.hdC hno rfl (by rw [hl, hu])) (handed_of ru) ⟨v, H1, I1.tok _, ru, q⟩
/-- isinstance(v, c), v a kept exception -/
def rIsK (K : PySem.W.Frag) (D : Addr) : List V → Hp → VK → Prop := fun xs H Q => ∃ (a : Addr) (d : Option Addr) (c : V) (u : Value) (b : Bool), xs = [.ref a, c] ∧ H a = some (ExK (.ref D) d a) ∧ (∀ dd, d = some dd → ∃ fs, H dd = some (.xd fs)) ∧ ClsV c u ∧ PySem.W.kitOne K (.ref D) u = some b ∧ Q (.bl b) H
theorem call_isK {D : Addr} (C : ExcC X.K D) : CallR X (.builtin "isinstance") (rIsK X.K D) := by
  intro pins s σ H xs us Q I r h
  obtain ⟨a, d, c, u, b, rfl, ha, hd, k, e, q⟩ := h
  obtain ⟨u1, u2, rfl, r1, r2⟩ := vals2 r
  cases r1
  have e2 := k.eq r2
  subst e2
  obtain ⟨oe, vs, g1, g2, g3⟩ := exK_at I.hok ha
  have nc : PySem.W.notCls oe := by unfold PySem.W.notCls; rw [g3] <;> rfl
  have hc : (PySem.W.clsIn X.K D).isSome = true := by
    cases z : PySem.W.clsIn X.K D with
    | none => have := C.hd; unfold PySem.W.hasDictIn at this; rw [z] at this; exact this
    | some _ => rfl
  obtain ⟨od, J⟩ : ∃ od, PySem.W.InstAt s.heap a oe D od := by
    cases d with
    | none => exact ⟨none, g1, g2.1, nc, by rw [g2.2]; exact True.intro⟩
    | some dd =>
      obtain ⟨fs, z⟩ := hd dd rfl
      have hx : ObjOk X.prog X.w H s.heap dd (.xd fs) := I.hok dd _ z
      obtain ⟨mA, hns, _⟩ := hx
      obtain ⟨o2, ho, _⟩ := lookIn_ns hns
      exact ⟨some o2, g1, g2.1, nc, by rw [g2.2]; exact ho⟩
  exact PySem.W.kia_one (PySem.W.kitx_exc hc C.hg C.hk C.hs C.ha C.hn C.ht C.hm) I.kIn J e (fun z => nomatch z) fun tk => ⟨.bl b, H, I.tok tk, rfl, q⟩
end
end DL
set_option maxRecDepth 100000
set_option maxHeartbeats 4000000
/-! HX1: sorted(xs), xs a list of tuples of texts and ints, or of texts, of any length. -/
namespace DL
open PySem PySem.Spec PyProof.Rows L2 Srt
/-! ### the order -/
def strLt (a b : Str) : Bool := decide (a.cps.toList < b.cps.toList)
def keyLt : Key → Key → Bool
  | .inl i, .inl j => decide (i < j)
  | .inr a, .inr b => strLt a b
  | .inl _, .inr _ => true
  | .inr _, .inl _ => false
def lexK : List Key → List Key → Bool
  | [], [] => false
  | [], _ :: _ => true
  | _ :: _, [] => false
  | a :: as, b :: bs => if a = b then lexK as bs else keyLt a b
/-- kinds agree where both go on -/
def homo : List Key → List Key → Prop
  | .inl _ :: as, .inl _ :: bs => homo as bs
  | .inr _ :: as, .inr _ :: bs => homo as bs
  | _ :: _, _ :: _ => False
  | _, _ => True
theorem natsLt_tri : ∀ (a b : List Nat), a < b ∨ a = b ∨ b < a
  | [], [] => .inr (.inl rfl)
  | [], _ :: _ => .inl (List.nil_lt_cons _ _)
  | _ :: _, [] => .inr (.inr (List.nil_lt_cons _ _))
  | x :: a, y :: b => by
    rcases Nat.lt_trichotomy x y with h | h | h
    · exact .inl (List.cons_lt_cons_iff.mpr (.inl h))
    · subst h
      rcases natsLt_tri a b with q | q | q
      · exact .inl (List.cons_lt_cons_iff.mpr (.inr ⟨rfl, q⟩))
      · subst q; exact .inr (.inl rfl)
      · exact .inr (.inr (List.cons_lt_cons_iff.mpr (.inr ⟨rfl, q⟩)))
    · exact .inr (.inr (List.cons_lt_cons_iff.mpr (.inl h)))
theorem natsLt_irr : ∀ (a : List Nat), ¬ a < a
  | [], h => by cases h
  | x :: a, h => by
    rcases List.cons_lt_cons_iff.mp h with q | ⟨_, q⟩
    · exact Nat.lt_irrefl _ q
    · exact natsLt_irr a q
theorem natsLt_tr : ∀ {a b c : List Nat}, a < b → b < c → a < c
  | [], _, [], h1, h2 => by
    rename_i b
    cases b with
    | nil => cases h1
    | cons y b => cases h2
  | [], _, _ :: _, _, _ => List.nil_lt_cons _ _
  | x :: a, [], _, h1, _ => by cases h1
  | x :: a, y :: b, [], _, h2 => by cases h2
  | x :: a, y :: b, z :: c, h1, h2 => by
    refine List.cons_lt_cons_iff.mpr ?_
    rcases List.cons_lt_cons_iff.mp h1 with q | ⟨e, q⟩
    · rcases List.cons_lt_cons_iff.mp h2 with r | ⟨e2, r⟩
      · exact .inl (Nat.lt_trans q r)
      · exact .inl (e2 ▸ q)
    · rcases List.cons_lt_cons_iff.mp h2 with r | ⟨e2, r⟩
      · exact .inl (e ▸ r)
      · exact .inr ⟨e.trans e2, natsLt_tr q r⟩
theorem str_ext {a b : Str} (h : a.cps.toList = b.cps.toList) : a = b := by
  obtain ⟨x⟩ := a
  obtain ⟨y⟩ := b
  have : x = y := Array.toList_inj.mp h
  rw [this]
theorem keyLt_irr (a : Key) : keyLt a a = false := by
  cases a with
  | inl i => exact decide_eq_false (Int.lt_irrefl i)
  | inr x => exact decide_eq_false (natsLt_irr _)
theorem keyLt_tri (a b : Key) : keyLt a b = true ∨ a = b ∨ keyLt b a = true := by
  cases a with
  | inl i =>
    cases b with
    | inl j =>
      rcases Int.lt_trichotomy i j with h | h | h
      · exact .inl (decide_eq_true h)
      · subst h; exact .inr (.inl rfl)
      · exact .inr (.inr (decide_eq_true h))
    | inr y => exact .inl rfl
  | inr x =>
    cases b with
    | inl j => exact .inr (.inr rfl)
    | inr y =>
      rcases natsLt_tri x.cps.toList y.cps.toList with h | h | h
      · exact .inl (decide_eq_true h)
      · exact .inr (.inl (by rw [str_ext h]))
      · exact .inr (.inr (decide_eq_true h))
theorem keyLt_tr {a b c : Key} (h1 : keyLt a b = true) (h2 : keyLt b c = true) : keyLt a c = true := by
  cases a <;> cases b <;> cases c <;> first
    | rfl
    | exact absurd (show false = true from h1) (by decide)
    | exact absurd (show false = true from h2) (by decide)
    | exact decide_eq_true (Int.lt_trans (of_decide_eq_true h1) (of_decide_eq_true h2))
    | exact decide_eq_true (natsLt_tr (of_decide_eq_true h1) (of_decide_eq_true h2))
theorem keyLt_asym {a b : Key} (h : keyLt a b = true) : keyLt b a = false := by
  cases q : keyLt b a with
  | false => rfl
  | true => have := keyLt_tr h q; rw [keyLt_irr] at this; cases this
theorem lexK_irr : ∀ a : List Key, lexK a a = false
  | [] => rfl
  | x :: a => by unfold lexK; rw [if_pos rfl]; exact lexK_irr a
theorem lexK_tri : ∀ a b : List Key, lexK a b = true ∨ a = b ∨ lexK b a = true
  | [], [] => .inr (.inl rfl)
  | [], _ :: _ => .inl rfl
  | _ :: _, [] => .inr (.inr rfl)
  | x :: a, y :: b => by
    unfold lexK
    by_cases e : x = y
    · subst e
      rw [if_pos rfl, if_pos rfl]
      rcases lexK_tri a b with h | h | h
      · exact .inl h
      · subst h; exact .inr (.inl rfl)
      · exact .inr (.inr h)
    · rw [if_neg e, if_neg (Ne.symm e)]
      rcases keyLt_tri x y with h | h | h
      · exact .inl h
      · exact absurd h e
      · exact .inr (.inr h)
theorem lexK_tr : ∀ {a b c : List Key}, lexK a b = true → lexK b c = true → lexK a c = true
  | [], [], _, h, _ => by cases h
  | [], _ :: _, [], _, h => by cases h
  | [], _ :: _, _ :: _, _, _ => rfl
  | _ :: _, [], _, h, _ => by cases h
  | _ :: _, _ :: _, [], _, h => by cases h
  | x :: a, y :: b, z :: c, h1, h2 => by
    unfold lexK at h1 h2 ⊢
    by_cases e : x = y
    · subst e
      rw [if_pos rfl] at h1
      by_cases e2 : x = z
      · subst e2
        rw [if_pos rfl] at h2 ⊢
        exact lexK_tr h1 h2
      · rw [if_neg e2] at h2 ⊢
        exact h2
    · rw [if_neg e] at h1
      by_cases e2 : y = z
      · subst e2
        rw [if_neg e]; exact h1
      · rw [if_neg e2] at h2
        have h3 := keyLt_tr h1 h2
        rw [if_neg (fun e3 => by subst e3; rw [keyLt_asym h1] at h2; cases h2)]
        exact h3
theorem lexK_asym {a b : List Key} (h : lexK a b = true) : lexK b a = false := by
  cases q : lexK b a with
  | false => rfl
  | true => have := lexK_tr h q; rw [lexK_irr] at this; cases this
theorem swoK {α : Type} (k : α → List Key) : SrtO.Swo fun x y => lexK (k x) (k y) := by
  refine ⟨fun x y h => lexK_asym h, fun x y z h1 h2 => ?_⟩
  cases q : lexK (k z) (k x) with
  | false => rfl
  | true =>
    rcases lexK_tri (k x) (k y) with h | h | h
    · have := lexK_tr q h; rw [this] at h2; cases h2
    · rw [h] at q; rw [q] at h2; cases h2
    · rw [h] at h1; cases h1
/-! ### comparing in the model -/
section
variable {prog : Program} {w : World} {A : Around} {E : Value → Shared → Prop} {s : Shared} {Q : Bool → Shared → Prop}
theorem lessS (c : Bool) {a b : Str} {t u : Tok} (h : Q (strLt a b) s) : wpAny (model prog w) A (oneLt' c (.str a t) (.str b u)) Q E s := by
  cases c with
  | false => exact PySem.W.kat_one _ _ (PyProof.Rows.lt_str (Q := PySem.W.BoolBack Q) h)
  | true => exact oneLt_str h
theorem lessI (c : Bool) {a b : Int} {t u : Tok} (h : Q (decide (a < b)) s) : wpAny (model prog w) A (oneLt' c (.int a t) (.int b u)) Q E s := by
  cases c with
  | false => exact PySem.W.kat_one _ _ (PyProof.Rows.lt_int (Q := PySem.W.BoolBack Q) h)
  | true => exact oneLt_int h
theorem lexWalk {b : Bool} : ∀ {xs ys : List Value} {ks js : List Key} (i : Nat), Vals (ks.map kV) xs → Vals (js.map kV) ys → homo ks js → Q (lexK ks js) s →
    PySem.W.KatLex prog w A b (decide (xs.length < ys.length)) Q (xs.zip ys) i s
  | [], [], [], [], _, .nil, .nil, _, h => PySem.W.kat_nil h
  | [], y :: ys, [], _ :: _, _, .nil, .cons _ _, _, h => by
    refine PySem.W.kat_nil ?_
    have e : decide (([] : List Value).length < (y :: ys).length) = true := decide_eq_true (Nat.succ_pos _)
    rw [e]; exact h
  | _ :: _, [], _ :: _, [], _, .cons _ _, .nil, _, h => PySem.W.kat_nil h
  | x :: xs, y :: ys, .inl m :: ks, .inl n :: js, i, .cons r1 r2, .cons q1 q2, g, h => by
    obtain ⟨t, rfl⟩ := r1
    obtain ⟨u, rfl⟩ := q1
    have e0 : decide ((Value.int m t :: xs).length < (Value.int n u :: ys).length) = decide (xs.length < ys.length) := by simp
    rw [e0]
    refine PySem.W.kat_cons (SeqAt.EqAt.int_int m t n u prog w _ _ ?_)
    unfold lexK at h
    by_cases e : m = n
    · subst e
      rw [if_pos rfl] at h
      have e1 : (m == m) = true := by simp
      rw [e1]
      exact PySem.W.kat_yes (lexWalk (i + 1) r2 q2 g h)
    · rw [if_neg (fun z => e (Sum.inl.inj z))] at h
      have e1 : (m == n) = false := by simpa using e
      rw [e1]
      exact PySem.W.kat_no (lessI _ h)
  | x :: xs, y :: ys, .inr m :: ks, .inr n :: js, i, .cons r1 r2, .cons q1 q2, g, h => by
    obtain ⟨t, rfl⟩ := r1
    obtain ⟨u, rfl⟩ := q1
    have e0 : decide ((Value.str m t :: xs).length < (Value.str n u :: ys).length) = decide (xs.length < ys.length) := by simp
    rw [e0]
    refine PySem.W.kat_cons (SeqAt.EqAt.str_str m t n u prog w _ _ ?_)
    unfold lexK at h
    by_cases e : m = n
    · subst e
      rw [if_pos rfl] at h
      have e1 : (m == m) = true := by simp
      rw [e1]
      exact PySem.W.kat_yes (lexWalk (i + 1) r2 q2 g h)
    · rw [if_neg (fun z => e (Sum.inr.inj z))] at h
      have e1 : (m == n) = false := by simpa using e
      rw [e1]
      exact PySem.W.kat_no (lessS _ h)
  | _ :: _, _ :: _, .inl _ :: _, .inr _ :: _, _, _, _, g, _ => g.elim
  | _ :: _, _ :: _, .inr _ :: _, .inl _ :: _, _, _, _, g, _ => g.elim
end
/-! ### tuples of keys in the heap -/
def keyIn : Value → Key
  | .int i _ => .inl i
  | .str x _ => .inr x
  | _ => .inl 0
def keysIn (h : Heap) : Value → List Key
  | .ref a => match h.get? a with
    | some o => match o.data with
      | .seq its _ => its.toList.map keyIn
      | _ => []
    | none => []
  | _ => []
def KtAt (h : Heap) (v : Value) (ks : List Key) : Prop := ∃ (a : Addr) (o : Obj) (us : Array Value) (n : Nat), v = .ref a ∧ h.get? a = some o ∧ o.cls = .type "tuple" ∧ o.data = .seq us n ∧ Vals (ks.map kV) us.toList
theorem keyIn_of : ∀ {ks : List Key} {us : List Value}, Vals (ks.map kV) us → us.map keyIn = ks
  | [], _, .nil => rfl
  | .inl i :: ks, _, .cons r rs => by
    obtain ⟨t, rfl⟩ := r
    rw [List.map_cons, keyIn_of rs]; rfl
  | .inr x :: ks, _, .cons r rs => by
    obtain ⟨t, rfl⟩ := r
    rw [List.map_cons, keyIn_of rs]; rfl
theorem KtAt.keys {h : Heap} {v : Value} {ks : List Key} (k : KtAt h v ks) : keysIn h v = ks := by
  obtain ⟨a, o, us, n, rfl, e1, e2, e3, e4⟩ := k
  show (match h.get? a with | some o => (match o.data with | .seq its _ => its.toList.map keyIn | _ => []) | none => []) = ks
  rw [e1]
  show (match o.data with | .seq its _ => its.toList.map keyIn | _ => []) = ks
  rw [e3]
  exact keyIn_of e4
theorem KtAt.stay {h h' : Heap} {v : Value} {ks : List Key} (k : KtAt h v ks) (kp : ∀ b o, h.get? b = some o → o.cls = .type "tuple" → h'.get? b = some o) : KtAt h' v ks := by
  obtain ⟨a, o, us, n, e0, e1, e2, e3, e4⟩ := k
  exact ⟨a, o, us, n, e0, kp _ _ e1 e2, e2, e3, e4⟩
/-- all begin with a text (an int) -/
def heads (b : Bool) (kss : List (List Key)) : Prop := ∀ ks ∈ kss, ∃ k r, ks = k :: r ∧ k.isRight = b
section
variable {prog : Program} {w : World} {A : Around} {E : Value → Shared → Prop} {s : Shared}
theorem firstsK {h : Heap} {f : Value → List Key} {b : Bool} : ∀ {vs : List Value}, (∀ v ∈ vs, KtAt h v (f v)) → heads b (vs.map f) → ∃ fs : List Value, PySem.W.KatTups h vs fs ∧ fs.length = vs.length ∧ ∀ u ∈ fs, (keyIn u).isRight = b ∧ ((∃ i t, u = .int i t) ∨ ∃ x t, u = .str x t)
  | [], _, _ => ⟨[], PySem.W.KatTups.nil, rfl, fun _ z => nomatch z⟩
  | v :: vs, hv, hh => by
    obtain ⟨fs, g1, g2, g3⟩ := firstsK (vs := vs) (fun u hu => hv u (List.mem_cons_of_mem _ hu)) (fun ks hk => hh ks (List.mem_cons_of_mem _ hk))
    obtain ⟨k, r, e, hb⟩ := hh (f v) List.mem_cons_self
    obtain ⟨a, o, us, n, rfl, e1, e2, e3, e4⟩ := hv v List.mem_cons_self
    rw [e] at e4
    obtain ⟨l⟩ := us
    have e4' : Vals (kV k :: r.map kV) l := e4
    cases e4' with
    | cons ru rr =>
      rename_i u us
      refine ⟨u :: fs, PySem.W.KatTups.cons e1 e2 e3 rfl g1, by rw [List.length_cons, List.length_cons, g2], fun y hy => ?_⟩
      rcases List.mem_cons.mp hy with rfl | hy
      · cases k with
        | inl i => obtain ⟨t, rfl⟩ := ru; exact ⟨hb, .inl ⟨_, _, rfl⟩⟩
        | inr x => obtain ⟨t, rfl⟩ := ru; exact ⟨hb, .inr ⟨_, _, rfl⟩⟩
      · exact g3 y hy
theorem cmpK {vs : List Value} {f : Value → List Key} {b : Bool} (hv : ∀ v ∈ vs, KtAt s.heap v (f v)) (hh : ∀ v ∈ vs, ∀ u ∈ vs, homo (f v) (f u)) : SrtO.Cmp prog w A s (tuples' b) (fun p => p.1 ∈ vs) (SrtO.lt2 fun v u => lexK (f v) (f u)) := fun p q hp hq => by
  have g := hh _ hp _ hq
  obtain ⟨a, o, us, n, e0, e1, e2, e3, e4⟩ := hv _ hp
  obtain ⟨a', o', us', n', e0', e1', e2', e3', e4'⟩ := hv _ hq
  show wpAny (model prog w) A (keyLt' (tuples' b) p.1 q.1) _ _ s
  have g' : homo (f p.1) (f q.1) := g
  rw [show SrtO.lt2 (fun v u => lexK (f v) (f u)) p q = lexK (f p.1) (f q.1) from rfl]
  generalize f p.1 = ks at e4 g' ⊢
  generalize f q.1 = js at e4' g' ⊢
  rw [e0, e0']
  refine PySem.W.kat_lt e1 e3 e1' e3' ?_
  have z := lexWalk (prog := prog) (w := w) (A := A) (s := s) (b := b) (Q := fun r s' => s' = s ∧ r = lexK ks js) 0 e4 e4' g' ⟨rfl, rfl⟩
  rw [Array.length_toList, Array.length_toList] at z
  exact z
theorem sortableK {a : Addr} {vs : List Value} {f : Value → List Key} {b : Bool} (h0 : 0 < vs.length) (hv : ∀ v ∈ vs, KtAt s.heap v (f v)) (hh : ∀ v ∈ vs, ∀ u ∈ vs, homo (f v) (f u)) (hb : heads b (vs.map f)) (ha : ∀ o, s.heap.get? a = some o → o.cls ≠ .type "tuple") :
    SrtO.SortableO prog w A s a vs fun v u => lexK (f v) (f u) := fun h' keep => by
  have hv' : ∀ v ∈ vs, KtAt h' v (f v) := fun v m => (hv v m).stay fun c o e q => keep c o (fun z => by subst z; exact ha o e q) e
  obtain ⟨fs, g1, g2, g3⟩ := firstsK hv' hb
  refine ⟨tuples' true, fun Q E hq => ?_, cmpK hv' hh⟩
  cases b with
  | false =>
    refine PySem.W.kat_kind (T := .type "int") g1 (by omega) (fun u hu => ?_) (by rfl) ?_
    · obtain ⟨q, ⟨i, t, rfl⟩ | ⟨x, t, rfl⟩⟩ := g3 u hu
      · exact PySem.W.Looks.now
      · cases q
    · rw [show (Value.type "int" != Value.type "tuple") = true from by first | decide +kernel | rfl | decide]; exact hq
  | true =>
    refine PySem.W.kat_kind (T := .type "str") g1 (by omega) (fun u hu => ?_) (by rfl) ?_
    · obtain ⟨q, ⟨i, t, rfl⟩ | ⟨x, t, rfl⟩⟩ := g3 u hu
      · cases q
      · exact PySem.W.Looks.now
    · rw [show (Value.type "str" != Value.type "tuple") = true from by first | decide +kernel | rfl | decide]; exact hq
end
/-! ### the rule -/
/-- at x stands a tuple of keys -/
def TupK (K : PySem.W.Frag) (H : Hp) (x : V) (ks : List Key) : Prop := ∃ t, x = .ref t ∧ SqT K H t (ks.map kV)
def rSortedK (K : PySem.W.Frag) : List V → Hp → VK → Prop := fun vs H Q => ∃ (a : Addr) (xs : List V) (b : Bool), vs = [.ref a] ∧ SqL K H a xs ∧ (2 ≤ xs.length → (∀ x ∈ xs, ∃ ks, TupK K H x ks ∧ ∃ k r, ks = k :: r ∧ k.isRight = b) ∧ ∀ x ∈ xs, ∀ y ∈ xs, ∀ ks js, TupK K H x ks → TupK K H y js → homo ks js) ∧
  ∀ ys, ys.Perm xs → ys.Pairwise (fun x y => ∀ ks js, TupK K H x ks → TupK K H y js → lexK js ks = false) → ∀ p, H p = none → Q (.ref p) (upd H p (.lst ys))
section
variable {X : Cx} {pins : List (Addr × Obj)} {σ : L2.St} {H : Hp} {s : Shared}
theorem ktAt_of (I : Inv X pins σ H s) {x : V} {ks : List Key} (h : TupK X.K H x ks) : ∃ t, x = .ref t ∧ KtAt s.heap (.ref t) ks := by
  obtain ⟨t, e, q⟩ := h
  obtain ⟨its, r, ⟨o, g1, g2, n, g3⟩, _⟩ := I.tuple q
  exact ⟨t, e, t, o, its.toArray, n, rfl, g1, g2, g3, r⟩
theorem backs {xs : List V} {us : List Value} (r : Vals xs us) (h : ∀ x ∈ xs, ∃ t, x = .ref t) : xs = us.map backV ∧ ∀ u ∈ us, ∃ t, u = .ref t := refs_back r h
theorem vals_perm {out its : List Value} (p : out.Perm its) : ∀ {xs : List V}, Vals xs its → ∃ ys, Vals ys out ∧ ys.Perm xs := by
  induction p with
  | nil => intro xs rv; cases rv; exact ⟨[], .nil, .refl _⟩
  | cons v _ ih =>
    intro xs rv
    cases rv with
    | cons r1 r2 => obtain ⟨ys, g1, g2⟩ := ih r2; exact ⟨_ :: ys, .cons r1 g1, g2.cons _⟩
  | swap v u l =>
    intro xs rv
    cases rv with
    | cons r1 r2 => cases r2 with | cons r2 r3 => exact ⟨_, .cons r2 (.cons r1 r3), .swap _ _ _⟩
  | trans _ _ ih1 ih2 =>
    intro xs rv
    obtain ⟨ys, g1, g2⟩ := ih2 rv
    obtain ⟨zs, g3, g4⟩ := ih1 g1
    exact ⟨zs, g3, g4.trans g2⟩
theorem vals_mem : ∀ {ys : List V} {out : List Value} {y : V}, Vals ys out → y ∈ ys → ∃ v ∈ out, RelV y v
  | _, _, _, .nil, h => nomatch h
  | _, _, _, .cons r1 r2, h => by
    rcases List.mem_cons.mp h with rfl | h
    · exact ⟨_, List.mem_cons_self, r1⟩
    · obtain ⟨v, h1, h2⟩ := vals_mem r2 h
      exact ⟨v, List.mem_cons_of_mem _ h1, h2⟩
theorem pair_move {R : Value → Value → Prop} {S : V → V → Prop} : ∀ {ys : List V} {out : List Value}, Vals ys out → out.Pairwise R → (∀ x y u v, RelV x u → RelV y v → x ∈ ys → y ∈ ys → R u v → S x y) → ys.Pairwise S
  | [], _, .nil, _, _ => .nil
  | x :: ys, u :: out, .cons r1 r2, h, f => by
    obtain ⟨h1, h2⟩ := List.pairwise_cons.mp h
    refine List.pairwise_cons.mpr ⟨fun y hy => ?_, pair_move r2 h2 fun a b c d e1 e2 m1 m2 => f a b c d e1 e2 (List.mem_cons_of_mem _ m1) (List.mem_cons_of_mem _ m2)⟩
    obtain ⟨v, hv, rv⟩ := vals_mem r2 hy
    exact f x y u v r1 rv List.mem_cons_self (List.mem_cons_of_mem _ hy) (h1 v hv)
/-- sorted(xs) -/
theorem cr_sortedK : CallR X (.builtin "sorted") (rSortedK X.K) := fun pins s σ H vs us Q I r h => by
  obtain ⟨a, xs, b, rfl, hs, hk, q⟩ := h
  obtain ⟨its, rv, hl, hz⟩ := I.list hs
  obtain ⟨u, rfl, ru⟩ := vals1 r
  obtain rfl : u = Value.ref a := ru
  have two : 2 ≤ xs.length → ∀ v ∈ its, KtAt s.heap v (keysIn s.heap v) ∧ backV v ∈ xs ∧ ∃ t, v = .ref t := fun h2 v hv => by
    have hr : ∀ x ∈ xs, ∃ t, x = .ref t := fun x m => by
      obtain ⟨ks, ⟨t, e, _⟩, _⟩ := (hk h2).1 x m
      exact ⟨t, e⟩
    obtain ⟨e1, e2⟩ := backs rv hr
    obtain ⟨t, rfl⟩ := e2 v hv
    have hm : V.ref t ∈ xs := by rw [e1]; exact List.mem_map.mpr ⟨_, hv, rfl⟩
    obtain ⟨ks, k, _⟩ := (hk h2).1 _ hm
    obtain ⟨t', e, k'⟩ := ktAt_of I k
    cases e
    refine ⟨?_, hm, t, rfl⟩
    rw [k'.keys]; exact k'
  have sameK : ∀ {x : V} {ks : List Key}, TupK X.K H x ks → ∀ t, x = .ref t → keysIn s.heap (.ref t) = ks := fun k t e => by
    obtain ⟨t', e', k'⟩ := ktAt_of I k
    rw [e] at e'; cases e'
    exact k'.keys
  refine SrtO.sorted_ord (ltv := fun v u => lexK (keysIn s.heap v) (keysIn s.heap u)) (swoK _) hl.isList (by rw [← rv.length]; exact hz) (fun h2 h₁ d hd kk => ?_) fun out ho hb => ?_
  · have h2' : 2 ≤ xs.length := by rw [rv.length]; exact h2
    have all := two h2'
    refine sortableK (s := { s with heap := h₁ }) (b := b) (by omega) (fun v hv => (all v hv).1.stay fun c o e _ => (kk c o e).2) (fun v hv u hu => ?_) (fun ks hks => ?_) fun o e => ?_
    · obtain ⟨_, m1, t, rfl⟩ := all v hv
      obtain ⟨_, m2, t', rfl⟩ := all u hu
      obtain ⟨ks, k1, _⟩ := (hk h2').1 _ m1
      obtain ⟨js, k2, _⟩ := (hk h2').1 _ m2
      rw [sameK k1 t rfl, sameK k2 t' rfl]
      exact (hk h2').2 _ m1 _ m2 _ _ k1 k2
    · obtain ⟨v, hv, rfl⟩ := List.mem_map.mp hks
      obtain ⟨_, m1, t, rfl⟩ := all v hv
      obtain ⟨ks, k1, kr⟩ := (hk h2').1 _ m1
      rw [sameK k1 t rfl]; exact kr
    · have e' : some o = some (seqObj "list" its.toArray 0) := e.symm.trans hd
      cases e'
      exact fun c => absurd (Value.type.inj c) (by decide)
  · obtain ⟨ys, rys, py⟩ := vals_perm hb.perm rv
    have new : ObjOk X.prog X.w (upd H (s.heap.objs.size + 1) (.lst ys)) (sortedAll s.heap its out.toArray) (s.heap.objs.size + 1) (.lst ys) := by
      obtain ⟨n, e⟩ : ∃ n, (sortedAll s.heap its out.toArray).get? (s.heap.objs.size + 1) = some (seqObj "list" out.toArray n) := sortedAll_at s.heap its out.toArray
      exact ⟨by rw [py.length_eq]; exact hz, out, n, rys, e⟩
    refine ⟨.ref (s.heap.objs.size + 1), upd H (s.heap.objs.size + 1) (.lst ys), I.laid (t' := s.toks) (fun c o e => sortedAll_old e) (Nat.le_succ _) new, rfl, q ys py ?_ _ (I.hok.fresh (Nat.le_succ _))⟩
    by_cases h2 : 2 ≤ xs.length
    · have sub : ∀ y ∈ ys, y ∈ xs := fun y hy => py.mem_iff.mp hy
      exact pair_move rys ho fun x y u v rx ry hx hy hlt ks js k1 k2 => by
        obtain ⟨t, e1, k1'⟩ := ktAt_of I k1
        obtain ⟨t', e2, k2'⟩ := ktAt_of I k2
        subst e1; subst e2
        cases rx; cases ry
        rw [← k1'.keys, ← k2'.keys]; exact hlt
    · have hl2 : ys.length < 2 := by rw [py.length_eq]; omega
      match ys, hl2 with
      | [], _ => exact .nil
      | [_], _ => exact List.pairwise_singleton _ _
      | _ :: _ :: _, z => exact absurd z (by simp)
theorem strsAre_in : ∀ {zs : List Str} {us : List Value}, Vals (zs.map V.str) us → StrsAre us zs
  | [], _, .nil => .nil
  | z :: zs, _, .cons r rs => by
    obtain ⟨t, rfl⟩ := r
    exact .cons z t (strsAre_in rs)
/-- sorted(xs), xs texts -/
def rSortedW (K : PySem.W.Frag) : List V → Hp → VK → Prop := fun vs H Q => ∃ (a : Addr) (zs : List Str), vs = [.ref a] ∧ SqL K H a (zs.map V.str) ∧ ∀ ys : List Str, ys.Perm zs → ys.Pairwise (fun x y => strLt y x = false) → ∀ p, H p = none → Q (.ref p) (upd H p (.lst (ys.map V.str)))
def txtIn : Value → Str
  | .str x _ => x
  | _ => ""
theorem strsAre_txt : ∀ {us : List Value} {zs : List Str}, StrsAre us zs → zs = us.map txtIn ∧ ∀ u ∈ us, ∃ x t, u = .str x t
  | _, _, .nil => ⟨rfl, fun _ h => nomatch h⟩
  | _, _, .cons y t r => by
    obtain ⟨e, h⟩ := strsAre_txt r
    refine ⟨by rw [List.map_cons, ← e]; rfl, fun u hu => ?_⟩
    rcases List.mem_cons.mp hu with rfl | hu
    · exact ⟨y, t, rfl⟩
    · exact h u hu
theorem txt_vals : ∀ {us : List Value}, (∀ u ∈ us, ∃ x t, u = Value.str x t) → Vals ((us.map txtIn).map V.str) us
  | [], _ => .nil
  | u :: us, h => by
    obtain ⟨x, t, rfl⟩ := h u List.mem_cons_self
    exact .cons ⟨t, rfl⟩ (txt_vals fun v hv => h v (List.mem_cons_of_mem _ hv))
theorem swoS {α : Type} (k : α → Str) : SrtO.Swo fun x y => strLt (k x) (k y) := by
  refine ⟨fun x y h => keyLt_asym (a := .inr (k x)) (b := .inr (k y)) h, fun x y z h1 h2 => ?_⟩
  have a := swoK (α := α) fun x => [.inr (k x)]
  have e : ∀ x y : Str, lexK [.inr x] [.inr y] = strLt x y := fun x y => by
    unfold lexK
    by_cases q : (Sum.inr x : Key) = .inr y
    · rw [if_pos q]
      cases q
      exact (keyLt_irr (.inr x)).symm
    · rw [if_neg q]; rfl
  have := a.tr x y z (by rw [e]; exact h1) (by rw [e]; exact h2)
  rw [e] at this; exact this
theorem cmpW {prog : Program} {w : World} {A : Around} {s : Shared} {vs : List Value} (h : ∀ v ∈ vs, ∃ x t, v = Value.str x t) : SrtO.Cmp prog w A s oneType' (fun p => p.1 ∈ vs) (SrtO.lt2 fun v u => strLt (txtIn v) (txtIn u)) := fun p q hp hq => by
  obtain ⟨x, t, e⟩ := h _ hp
  obtain ⟨y, u, e'⟩ := h _ hq
  show wpAny (model prog w) A (oneLt' true p.1 q.1) (fun r s' => s' = s ∧ r = strLt (txtIn p.1) (txtIn q.1)) _ s
  rw [e, e']
  exact lessS true ⟨rfl, rfl⟩
theorem cr_sortedW : CallR X (.builtin "sorted") (rSortedW X.K) := fun pins s σ H vs us Q I r h => by
  obtain ⟨a, zs, rfl, hs, q⟩ := h
  obtain ⟨its, rv, hl, hz⟩ := I.list hs
  obtain ⟨u, rfl, ru⟩ := vals1 r
  obtain rfl : u = Value.ref a := ru
  have hst := strsAre_in rv
  obtain ⟨ez, allS⟩ := strsAre_txt hst
  refine SrtO.sorted_ord (ltv := fun v u => strLt (txtIn v) (txtIn u)) (swoS _) hl.isList (by rw [← rv.length]; exact hz) (fun h2 h₁ d hd kk => fun h' keep => ⟨oneType', fun Q' E' hq => ?_, cmpW allS⟩) fun out ho hb => ?_
  · obtain ⟨v₁, v₂, vs, e⟩ : ∃ v₁ v₂ vs, its = v₁ :: v₂ :: vs := by
      cases its with
      | nil => simp at h2
      | cons v₁ r => cases r with
        | nil => simp at h2
        | cons v₂ vs => exact ⟨_, _, _, rfl⟩
    subst e
    rw [keyKind_strs hst]
    exact wpAny_pure hq
  · have pm := hb.perm
    have allO : ∀ u ∈ out, ∃ x t, u = Value.str x t := fun u hu => allS u (pm.mem_iff.mp hu)
    have rys := txt_vals allO
    have py : (out.map txtIn).Perm zs := by rw [ez]; exact pm.map _
    have new : ObjOk X.prog X.w (upd H (s.heap.objs.size + 1) (.lst ((out.map txtIn).map V.str))) (sortedAll s.heap its out.toArray) (s.heap.objs.size + 1) (.lst ((out.map txtIn).map V.str)) := by
      obtain ⟨n, e⟩ : ∃ n, (sortedAll s.heap its out.toArray).get? (s.heap.objs.size + 1) = some (seqObj "list" out.toArray n) := sortedAll_at s.heap its out.toArray
      refine ⟨?_, out, n, rys, e⟩
      rw [List.length_map, py.length_eq]
      rw [List.length_map] at hz
      exact hz
    exact ⟨.ref (s.heap.objs.size + 1), upd H (s.heap.objs.size + 1) (.lst ((out.map txtIn).map V.str)), I.laid (t' := s.toks) (fun c o e => sortedAll_old e) (Nat.le_succ _) new, rfl, q _ py (List.pairwise_map.mpr ho) _ (I.hok.fresh (Nat.le_succ _))⟩
end
end DL
set_option maxRecDepth 100000
set_option maxHeartbeats 4000000
/-! HX2: set(xs) and sorted(set(xs)), xs a list or tuple of texts or ints of any length. -/
namespace DL
open PySem PySem.Spec PyProof.Rows L2 Srt
/-! ### what a set comes to -/
instance memDecK (k : Key) : ∀ S : List Key, Decidable (k ∈ S)
  | [] => .isFalse (by simp)
  | a :: S => match decEq k a, memDecK k S with
    | .isTrue h, _ => .isTrue (List.mem_cons.mpr (.inl h))
    | .isFalse h, .isTrue q => .isTrue (List.mem_cons.mpr (.inr q))
    | .isFalse h, .isFalse q => .isFalse fun z => (List.mem_cons.mp z).elim h q
def addK (S : List Key) (k : Key) : List Key := if k ∈ S then S else S ++ [k]
def setK (ks : List Key) : List Key := ks.foldl addK []
theorem addK_len (S : List Key) (k : Key) : (addK S k).length ≤ S.length + 1 := by
  unfold addK; split
  · exact Nat.le_succ _
  · rw [List.length_append]; exact Nat.le_refl _
theorem addK_nd {S : List Key} (h : S.Nodup) (k : Key) : (addK S k).Nodup := by
  unfold addK; split
  · exact h
  · rename_i c
    refine List.nodup_append.mpr ⟨h, List.nodup_cons.mpr ⟨by simp, List.nodup_nil⟩, fun a ha b hb => ?_⟩
    rw [List.mem_singleton.mp hb]
    exact fun z => c (z ▸ ha)
theorem addK_mem {S : List Key} {k j : Key} : j ∈ addK S k ↔ j ∈ S ∨ j = k := by
  unfold addK; split
  · rename_i c
    exact ⟨.inl, fun h => h.elim id fun z => z ▸ c⟩
  · rw [List.mem_append, List.mem_singleton]
theorem foldK : ∀ (ks S : List Key), S.Nodup → (ks.foldl addK S).Nodup ∧ (ks.foldl addK S).length ≤ S.length + ks.length ∧ ∀ j, j ∈ ks.foldl addK S ↔ j ∈ S ∨ j ∈ ks
  | [], S, h => ⟨h, Nat.le_refl _, fun j => by simp⟩
  | k :: ks, S, h => by
    obtain ⟨a, b, c⟩ := foldK ks (addK S k) (addK_nd h k)
    refine ⟨a, ?_, fun j => ?_⟩
    · have := addK_len S k
      rw [List.foldl_cons, List.length_cons]
      omega
    · rw [List.foldl_cons, c j, addK_mem, List.mem_cons, or_assoc]
theorem setK_nd (ks : List Key) : (setK ks).Nodup := (foldK ks [] List.nodup_nil).1
theorem setK_len (ks : List Key) : (setK ks).length ≤ ks.length := by
  have := (foldK ks [] List.nodup_nil).2.1
  simpa [setK] using this
theorem setK_mem {ks : List Key} {j : Key} : j ∈ setK ks ↔ j ∈ ks := by
  have := (foldK ks [] List.nodup_nil).2.2 j
  simpa [setK] using this
/-! ### the set in the heap -/
def kOf (e : Int × Value) : Key := keyIn e.2
def SetKs (P : Program) (w : World) (h : Heap) (a : Addr) (S : List Key) : Prop :=
  ∃ o es ep t, h.get? a = some o ∧ o.ExactSet ∧ o.data = .set es ep t ∧ ElemsOf (mixKind P w) es.toList ∧ (es.toList.map kOf).Perm S ∧ S.Nodup ∧
    es.size < scanBound ∧ t.fits es.size = true ∧ Ris t.place.toList ∧ (w.params.followText "set-order" = true ∨ t.led = true)
theorem kOf_is {P : Program} {w : World} {e : Int × Value} {j : Key} (h : (mixKind P w).is j e.2 = true) : kOf e = j := by
  rcases keyIs_shape h with ⟨i, t, q, e2⟩ | ⟨x, t, q, e2⟩ <;> (unfold kOf; rw [e2, q]; rfl)
theorem is_kOf {P : Program} {w : World} {e : Int × Value} {l : List (Int × Value)} (g : ElemsOf (mixKind P w) l) (he : e ∈ l) : (mixKind P w).is (kOf e) e.2 = true := by
  obtain ⟨⟨j, hj, _⟩, _⟩ := g e he
  rw [kOf_is hj]; exact hj
theorem SetKs.keep {P : Program} {w : World} {h h' : Heap} {a : Addr} {S : List Key} (R : SetKs P w h a S) (k : ∀ o, h.get? a = some o → h'.get? a = some o) : SetKs P w h' a S := by
  obtain ⟨o, es, ep, t, ho, r⟩ := R
  exact ⟨o, es, ep, t, k o ho, r⟩
theorem setKs_new {P : Program} {w : World} {h : Heap} {a : Addr} (ho : h.get? a = some { cls := .type "set", dict := none, data := .set #[] 0 (.fresh 0 0 (!w.params.followText "set-order")) }) : SetKs P w h a [] := by
  refine ⟨_, #[], 0, _, ho, ⟨rfl, rfl, rfl⟩, rfl, fun e he => absurd he (by simp), List.Perm.refl _, List.nodup_nil, by decide, by rfl, List.Pairwise.nil, ?_⟩
  show _ ∨ (!w.params.followText "set-order") = true
  cases w.params.followText "set-order" <;> simp
section
variable {P : Program} {w : World} {A : Around} {E : Value → Shared → Prop} {s : Shared} {a : Addr} {S : List Key}
theorem put_setKs {wasDummy : Bool} {g : Bool → Sem Unit} (hg : ∀ (b : Bool) (z : Shared) (Q' : Unit → Shared → Prop), Q' () z → wpAny (model P w) A (g b) Q' E z)
    {o : Obj} {es : Array (Int × Value)} {ep : Nat} {t : SetTable} (ho : s.heap.get? a = some o) (hex : o.ExactSet) (hd : o.data = .set es ep t)
    {xs : Array (Int × Value)} {tt : SetTable} (g1 : ElemsOf (mixKind P w) xs.toList) (p1 : (xs.toList.map kOf).Perm S) (nd : S.Nodup) (hb1 : xs.size < scanBound) (hf2 : tt.fits xs.size = true)
    (rr : Ris tt.place.toList) (ll : w.params.followText "set-order" = true ∨ tt.led = true) {R : Option Bool → Shared → Prop}
    (hR : ∀ h', Heap.SameBut a s.heap h' → SetKs P w h' a S → R (some true) { s with heap := h' }) :
    wpAny (model P w) A (do
        storeSet a xs tt
        if (!wasDummy && tt.tooFull) = true then do
            g (relayAll tt xs (SetTable.grown xs.size)).2.2
            storeSet a (relayAll tt xs (SetTable.grown xs.size)).1 (relayAll tt xs (SetTable.grown xs.size)).2.1
            pure (some true)
          else pure (some true)) R E s := by
  refine wpAny_bind (wpAny_storeSet_of ho hd ?_ (fits_of_scanBound hb1))
  have u1 := store_at (es' := xs) (t' := tt) ho hd
  have v1 := Heap.SameBut.update s.heap a (Obj.putSet xs tt)
  split
  · have pm := relayAll_perm tt xs (SetTable.grown xs.size)
    have k1 := relayAll_fits tt xs (SetTable.grown xs.size)
    have k2 := relayAll_ris tt xs (SetTable.grown xs.size)
    have k3 := relayAll_led tt xs (SetTable.grown xs.size)
    generalize relayAll tt xs (SetTable.grown xs.size) = Y at pm k1 k2 k3 ⊢
    obtain ⟨ys, ty, gy⟩ := Y
    dsimp only at pm k1 k2 k3 ⊢
    have sz : ys.size = xs.size := by rw [← Array.length_toList, pm.length_eq, Array.length_toList]
    refine wpAny_bind (hg _ _ _ (wpAny_bind (wpAny_storeSet_of u1 rfl ?_ (fits_of_scanBound (by rw [sz]; exact hb1)))))
    refine wpAny_pure (hR _ (v1.trans (Heap.SameBut.update _ a _)) ⟨_, ys, _, ty, store_at (es' := ys) (t' := ty) u1 rfl, hex, rfl, fun e he => g1 e (pm.mem_iff.mp he), (pm.map kOf).trans p1, nd, by rw [sz]; exact hb1, k1, k2, ?_⟩)
    exact ll.imp id fun z => k3.trans z
  · exact wpAny_pure (hR _ v1 ⟨_, xs, _, tt, u1, hex, rfl, g1, p1, nd, hb1, hf2, rr, ll⟩)
theorem add_setKs {k : Key} {v : Value} {Q : Bool → Shared → Prop} (hv : (mixKind P w).is k v = true) (hsc : v.scannable = true) (R : SetKs P w s.heap a S) (room : S.length + 1 < scanBound)
    (hQ : ∀ b h', Heap.SameBut a s.heap h' → SetKs P w h' a (addK S k) → Q b { s with heap := h' }) :
    wpAny (model P w) A (setAddHashed a v ((mixKind P w).hash k)) Q E s := by
  obtain ⟨o, es, ep, t, ho, hex, hd, g, pS, nd, hb, hf, hr, hl⟩ := R
  unfold setAddHashed setAddHashedIn
  refine wpAny_holding (wpAny_bind (wpAny_setState_of ho hd hf ?_))
  dsimp only
  rw [byScan_of hsc hb g, if_pos rfl]
  unfold setAddByScan
  refine wpAny_bind (wpAny_bind (wpAny_rule (wpAny_bind (wpAny_setScan_of hv ho hd hf g ?_))))
  cases hfi : List.findIdx? (fun e => (mixKind P w).is k e.2) es.toList with
  | some j =>
    dsimp only
    obtain ⟨hj, pj, _⟩ := List.findIdx?_eq_some_iff_getElem.mp hfi
    have hin : k ∈ S := pS.mem_iff.mp (List.mem_map.mpr ⟨_, List.getElem_mem hj, kOf_is pj⟩)
    refine wpAny_pure (wpAny_pure (hQ _ s.heap (Heap.SameBut.refl a s.heap) ?_))
    unfold addK
    rw [if_pos hin]
    exact ⟨o, es, ep, t, ho, hex, hd, g, pS, nd, hb, hf, hr, hl⟩
  | none =>
    dsimp only
    have hout : k ∉ S := fun z => by
      obtain ⟨e, he, q⟩ := List.mem_map.mp (pS.mem_iff.mpr z)
      have c := List.findIdx?_eq_none_iff.mp hfi e he
      have d := is_kOf g he
      rw [q] at d
      rw [d] at c
      cases c
    have gave : ∀ (b : Bool) {z : Shared} {Q' : Unit → Shared → Prop}, Q' () z → wpAny (model P w) A (match b with | true => rule "set.scan.the-table-gave-way" | false => pure ()) Q' E z := by
      intro b z Q' q
      cases b
      · exact wpAny_pure q
      · exact wpAny_rule q
    have pm := layNew_perm t es ((mixKind P w).hash k) v
    have k1 := layNew_fits t es ((mixKind P w).hash k) v
    have k2 := layNew_ris t es ((mixKind P w).hash k) v hr
    have k3 := layNew_led t es ((mixKind P w).hash k) v
    generalize layNew t es ((mixKind P w).hash k) v = Y at pm k1 k2 k3 ⊢
    obtain ⟨ys, ty, wd, gv⟩ := Y
    dsimp only at pm k1 k2 k3 ⊢
    rw [Array.toList_push] at pm
    have pc : ys.toList.Perm (((mixKind P w).hash k, v) :: es.toList) := pm.trans (List.perm_append_singleton _ _)
    have g1 : ElemsOf (mixKind P w) ys.toList := fun e he => by
      rcases List.mem_cons.mp (pc.mem_iff.mp he) with z | z
      · rw [z]; exact ⟨⟨k, hv, rfl⟩, hsc⟩
      · exact g e z
    have hS : addK S k = S ++ [k] := by unfold addK; rw [if_neg hout]
    have p1 : (ys.toList.map kOf).Perm (addK S k) := by
      rw [hS]
      have q := pc.map kOf
      rw [List.map_cons, kOf_is hv] at q
      exact (q.trans (pS.cons k)).trans (List.perm_append_singleton _ _).symm
    have sz : ys.size = S.length + 1 := by
      rw [← Array.length_toList, ← List.length_map (f := kOf), p1.length_eq, hS, List.length_append]; rfl
    have hb1 : ys.size < scanBound := by rw [sz]; exact room
    have hl1 : w.params.followText "set-order" = true ∨ ty.led = true := hl.imp id fun z => k3.trans z
    have nd1 := addK_nd nd k
    have g2 : ∀ (b : Bool) (z : Shared) (Q' : Unit → Shared → Prop), Q' () z → wpAny (model P w) A (match b with | true => rule "set.scan.the-table-gave-way" | false => pure ()) Q' E z := fun b z Q' q => gave b q
    refine wpAny_bind (gave _ ?_)
    split
    · refine wpAny_bind ?_
      rw [hashByValue_scannable 8 hsc]
      refine wpAny_pure (put_setKs g2 ho hex hd g1 p1 nd1 hb1 ?_ ?_ ?_ fun h' sb r => ?_)
      · first | exact k1 | (split <;> first | exact k1 | exact SetTable.fits_plain_off k1)
      · first | exact k2 | (split <;> exact k2)
      · first | exact hl1 | (split <;> exact hl1)
      · exact wpAny_pure (hQ _ h' sb r)
    · refine wpAny_bind (wpAny_pure ?_)
      simp only [if_true]
      exact put_setKs g2 ho hex hd g1 p1 nd1 hb1 k1 k2 hl1 fun h' sb r => wpAny_pure (hQ _ h' sb r)
/-! ### set(xs) -/
theorem fill_setKs {I : Addr} {fp wr : List Addr} {G : Array GenState → Array GenState → Prop} {n : Nat} {Pv : Nat → Value → Prop} {St : Nat → Shared → Prop} {R : Result → Shared → Prop}
    (W : WalksS P w A.in1 I fp wr G n Pv St) (T : Addr) (hT : T ∉ fp) (ks : List Key) (hn : n = ks.length) (hb : ks.length + 1 < scanBound) (hval : ∀ i v, Pv i v → ∃ k, ks[i]? = some k ∧ RelV (kV k) v) :
    ∀ (m i : Nat) (z : Shared), n - i = m → i ≤ n → St i z → SetKs P w z.heap T (setK (ks.take i)) →
      (∀ z', Moved (T :: wr) G z z' → SetKs P w z'.heap T (setK ks) → R (.ok (.ret .none)) z') →
      codeAny (model P w) A (.builtin "set.update.loop" ⟨[.ref T, .ref I], []⟩) R z := by
  have hTw : T ∉ wr := fun h => hT (W.sub _ h)
  have inc : ∀ b ∈ wr, b ∈ T :: wr := fun b hb => List.mem_cons_of_mem _ hb
  intro m
  induction m with
  | zero =>
    intro i z hm hi hst hS hR
    obtain rfl : i = n := by omega
    refine codeAny_builtin F.entry_set_update_loop ?_
    rw [Around.under_plainId F.plain_set_update_loop _]
    show wpAny _ A.in1 (pyNext (.ref I) >>= _) _ _ z
    refine wpAny_bind (W.done z _ _ hst fun z' mv => ?_)
    rw [List.take_of_length_le (by omega)] at hS
    exact wpAny_pure (hR z' (mv.mono inc) (hS.keep fun o e => mv.heap T o hTw e))
  | succ m ih =>
    intro i z hm hi hst hS hR
    refine codeAny_builtin F.entry_set_update_loop ?_
    rw [Around.under_plainId F.plain_set_update_loop _]
    show wpAny _ A.in1 (pyNext (.ref I) >>= _) _ _ z
    refine wpAny_bind (W.item i z _ _ (by omega) hst fun v z' hP st' mv => ?_)
    obtain ⟨k, hk, rv⟩ := hval i v hP
    have S1 : SetKs P w z'.heap T (setK (ks.take i)) := hS.keep fun o e => mv.heap T o hTw e
    show wpAny _ A.in1 (holding [v] (setAdd T v) >>= _) _ _ z'
    refine wpAny_bind (wpAny_holding ?_)
    unfold setAdd
    refine wpAny_holding (wpAny_bind ((mixKind P w).pyHash (k := k) (kV_is rv) ?_))
    refine add_setKs (s := { z' with toks := z'.toks + 1 }) (kV_is rv) (key_scan rv) S1 ?_ fun b h' sb S2 => ?_
    · have := setK_len (ks.take i)
      have q : (ks.take i).length ≤ ks.length := by rw [List.length_take]; exact Nat.min_le_right _ _
      omega
    have e1 : addK (setK (ks.take i)) k = setK (ks.take (i + 1)) := by
      rw [List.take_add_one, hk]
      unfold setK
      rw [List.foldl_append]; rfl
    rw [e1] at S2
    refine wpAny_pure ⟨plainId_quiet F.plain_set_update_loop _, ih (i + 1) _ (by omega) (by omega) (W.frame _ z' _ _ st' (Nat.le_succ _) fun b hb o e => ?_) S2 fun z2 mv2 S3 => ?_⟩
    · rw [sb.2 b fun h : b = T => hT (h ▸ hb)]; exact e
    · refine hR z2 (Moved.trans W.gtrans ((mv.mono inc).then_heap (Nat.le_succ _) fun b o hb e => ?_) mv2) S3
      rw [sb.2 b fun h : b = T => hb (h ▸ List.mem_cons_self)]; exact e
/-- what the walked thing must be: a list or a tuple -/
structure SeqTy (P : Program) (w : World) (T : String) (I : String) : Prop where
  s1 : isSubtype (.type T) (.type "set") = pure false
  s2 : isSubtype (.type T) (.type "frozenset") = pure false
  ne : (Value.type T == Value.type "dict") = false
  it : ∀ {A : Around} {E : Value → Shared → Prop} {z : Shared} {l : Addr} {o : Obj} {xs : Array Value} {n : Nat} {Q : Value → Shared → Prop}, z.heap.get? l = some o → o.cls = .type T → o.data = .seq xs n →
    Q (.ref z.heap.objs.size) { z with heap := z.heap.push { cls := .type I, data := .fields #[.ref l, .int 0 0] } } → wpAny (model P w) A (pyIter (.ref l)) Q E z
  wk : ∀ {A : Around} (hh : A.handled = none) (i l : Addr) (hne : l ≠ i) (xs : Array Value), ∃ St : Nat → Heap → Prop, Walks P w A i [i, l] [i] xs.size (fun j v => xs[j]? = some v) St ∧
    ∀ (z : Shared) (o : Obj) (n : Nat), i = z.heap.objs.size → z.heap.get? l = some o → o.cls = .type T → o.data = .seq xs n → St 0 (z.heap.push { cls := .type I, data := .fields #[.ref l, .int 0 0] })
end
theorem pushed_at {h : Heap} {i : Addr} {o : Obj} (hf : o.isFreed = false) (e : i = h.objs.size) : (h.push o).get? i = some o := by
  subst e
  exact Heap.get?_push_size _ hf
theorem seqTup (P : Program) (w : World) : SeqTy P w "tuple" "tuple_iterator" where
  s1 := F.sub_tuple_set
  s2 := F.sub_tuple_frozenset
  ne := by decide
  it := fun ho hc hd q => wpAny_pyIter_tuple ⟨_, ho, hc, _, hd⟩ q
  wk := fun hh i l hne xs => ⟨_, Walks.tuple hh i l hne xs, fun z o n e ho hc hd => ⟨⟨_, pushed_at rfl e, rfl, rfl⟩, ⟨_, Heap.get?_push_of_some _ ho, hc, n, hd⟩⟩⟩
theorem seqLst (P : Program) (w : World) : SeqTy P w "list" "list_iterator" where
  s1 := PySem.F.sub_list_set
  s2 := PySem.F.sub_list_frozenset
  ne := by decide
  it := fun ho hc hd q => wpAny_pyIter_list (by first | exact ⟨_, ho, hc, _, hd⟩ | exact ⟨_, ho, hc, hd⟩) q
  wk := fun hh i l hne xs => ⟨_, Walks.list hh i l hne xs, fun z o n e ho hc hd => ⟨⟨_, pushed_at rfl e, rfl, rfl⟩, ⟨_, Heap.get?_push_of_some _ ho, hc, n, hd⟩⟩⟩
section
variable {P : Program} {w : World} {A : Around} {E : Value → Shared → Prop} {s : Shared}
def noSet (w : World) : Obj := { cls := .type "set", dict := none, data := .set #[] 0 (.fresh 0 0 (!w.params.followText "set-order")) }
set_option maxHeartbeats 3200000 in
/-- set(l), by what its loop comes to -/
theorem call_set_gen {T I : String} (ty : SeqTy P w T I) {l : Addr} {o : Obj} {xs : Array Value} {n : Nat} (Fi : Heap → Prop) {Q : Value → Shared → Prop} (hh : A.handled = none) (ho : s.heap.get? l = some o) (hc : o.cls = .type T) (hd : o.data = .seq xs n)
    (loop : ∀ {R : Result → Shared → Prop} {i : Addr} {St : Nat → Heap → Prop} {z : Shared}, Walks P w A.in1.in1.in1 i [i, l] [i] xs.size (fun j v => xs[j]? = some v) St → s.heap.objs.size ∉ [i, l] → s.heap.get? i = none →
      z.heap.get? s.heap.objs.size = some (noSet w) → (∀ b u, s.heap.get? b = some u → z.heap.get? b = some u) → St 0 z.heap →
      (∀ z', Moved (s.heap.objs.size :: [i]) (fun a b => b = a) z z' → Fi z'.heap → R (.ok (.ret .none)) z') → codeAny (model P w) A.in1.in1 (.builtin "set.update.loop" ⟨[.ref s.heap.objs.size, .ref i], []⟩) R z)
    (h : ∀ (h' : Heap) (tk : Nat), Fi h' → (∀ b u, s.heap.get? b = some u → h'.get? b = some u) → Q (.ref s.heap.objs.size) { s with heap := h', toks := tk }) :
    wpAny (model P w) A (call (.type "set") [.ref l]) Q E s := by
  obtain ⟨c, tl, hmro⟩ := F.called_set.mro
  have hmade := F.called_set.made
  have hsub := F.called_set.sub
  refine wpAny_call (codeAny_of_tree ?_)
  show wpAny _ _ (callAny (.type "set") _) _ _ _
  refine wpAny_pure ⟨Code.quiet_builtin _ (by decide +kernel), codeAny_builtin F.entry_type_call ?_⟩
  rw [Around.under_plain (weight_type_call_type "set" [.ref l] []) rfl]
  have f1 := F.called_set.notType
  have f2 := F.called_set.canCreate
  have f3 := F.typeCall_set_1 (.ref l)
  repeat (any_goals (first | assumption | wp_step))
  refine codeAny_mono (L2.code_set_led1 (.ref l) (E := E) (Q₁ := fun v z => v = .ref s.heap.objs.size ∧ z = { s with heap := s.heap.push (noSet w) }) ⟨rfl, rfl⟩) fun r z hr => ?_
  cases r with
  | error e => exact hr
  | ok fl =>
    cases fl with
    | ret v =>
      obtain ⟨rfl, rfl⟩ := hr
      have hS : (s.heap.push (noSet w)).get? s.heap.objs.size = some (noSet w) := Heap.get?_push_size _ rfl
      have hT : Shared.TypeIs { s with heap := s.heap.push (noSet w) } (.ref s.heap.objs.size) "set" := ⟨_, hS, rfl⟩
      have f4 := F.called_set.init.lookup
      have f5 := F.called_set.init.bind (.ref s.heap.objs.size)
      repeat (any_goals (first | assumption | wp_step))
      refine codeAny_mono (codeAny_call_builtin (R := wants (fun v z => v = .none ∧ ∃ h' tk, z = { s with heap := h', toks := tk } ∧ Fi h' ∧ (∀ b u, s.heap.get? b = some u → h'.get? b = some u)) E)
        F.called_set.init.plain F.entry_set_init (check_set_init_1 hT ?_)) fun r2 z2 hr2 => ?_
      · have ho1 : (s.heap.push (noSet w)).get? l = some o := Heap.get?_push_of_some _ ho
        have hT1 : Shared.TypeIs { s with heap := s.heap.push (noSet w) } (.ref l) T := ⟨o, ho1, hc⟩
        have t1 := ty.s1
        have t2 := ty.s2
        have t3 := ty.ne
        unfold Builtin.«set.__init__» noKeywords Builtin.Frozenset.updateFrom
        generalize hPI : pyIter = PI
        wp_walk
        subst hPI
        refine ty.it ho1 hc hd ?_
        refine wpAny_bind (wpAny_runValue ?_)
        have lt : l < s.heap.objs.size := Heap.lt_size ho
        have sz1 : (s.heap.push (noSet w)).objs.size = s.heap.objs.size + 1 := Heap.size_push ..
        have hne : l ≠ (s.heap.push (noSet w)).objs.size := by
          rw [sz1]
          exact Nat.ne_of_lt (Nat.lt_succ_of_lt lt)
        have hnf : s.heap.objs.size ∉ [(s.heap.push (noSet w)).objs.size, l] := by
          rw [sz1]
          simp only [List.mem_cons, List.mem_singleton, List.not_mem_nil, or_false, not_or]
          exact ⟨Nat.ne_of_lt (Nat.lt_succ_self _), Nat.ne_of_gt lt⟩
        obtain ⟨St, W, st0⟩ := ty.wk (A := A.in1.in1.in1) (by simp [hh]) (s.heap.push (noSet w)).objs.size l hne xs
        refine loop W hnf ?_ (Heap.get?_push_of_some _ hS) (fun b u e => Heap.get?_push_of_some _ (Heap.get?_push_of_some _ e)) (st0 { s with heap := s.heap.push (noSet w) } o n rfl ho1 hc hd) fun z' mv S1 => ?_
        · cases q : s.heap.get? (s.heap.push (noSet w)).objs.size with
          | none => rfl
          | some u =>
            have lt2 := Heap.lt_size q
            rw [sz1] at lt2
            exact absurd lt2 (Nat.not_lt_of_le (Nat.le_succ _))
        · obtain ⟨h', g2, d', tk', os'⟩ := z'
          have eg : g2 = s.gens := mv.gens
          have ed : d' = s.drawn := mv.drawn
          have eo : os' = s.os := mv.os
          subst eg; subst ed; subst eo
          show wpAny _ _ _ _ _ _
          refine wpAny_pure ?_
          show wpAny _ _ (ret Value.none) _ _ _
          refine wpAny_pure ⟨rfl, h', tk', rfl, S1, fun b u e => ?_⟩
          have lb : b < s.heap.objs.size := Heap.lt_size e
          refine mv.heap b u ?_ (Heap.get?_push_of_some _ (Heap.get?_push_of_some _ e))
          rw [sz1]
          simp only [List.mem_cons, List.mem_singleton, List.not_mem_nil, or_false, not_or]
          exact ⟨Nat.ne_of_lt lb, Nat.ne_of_lt (Nat.lt_succ_of_lt lb)⟩
      · cases r2 with
        | error e => exact hr2
        | ok fl2 =>
          cases fl2 with
          | ret v2 =>
            obtain ⟨rfl, h', tk, rfl, S1, kp⟩ := hr2
            repeat (any_goals (first | assumption | wp_step))
            exact h _ _ S1 kp
          | _ => exact hr2.elim
    | _ => exact hr.elim
theorem call_setKs {T I : String} (ty : SeqTy P w T I) {l : Addr} {o : Obj} {xs : Array Value} {n : Nat} (ks : List Key) {Q : Value → Shared → Prop} (hh : A.handled = none) (ho : s.heap.get? l = some o) (hc : o.cls = .type T) (hd : o.data = .seq xs n)
    (hv : Vals (ks.map kV) xs.toList) (hb : ks.length + 1 < scanBound)
    (h : ∀ (h' : Heap) (tk : Nat), SetKs P w h' s.heap.objs.size (setK ks) → (∀ b u, s.heap.get? b = some u → h'.get? b = some u) → Q (.ref s.heap.objs.size) { s with heap := h', toks := tk }) :
    wpAny (model P w) A (call (.type "set") [.ref l]) Q E s := by
  have hsz : xs.size = ks.length := by
    have q := hv.length
    rw [List.length_map, Array.length_toList] at q
    exact q.symm
  refine call_set_gen ty (fun h' => SetKs P w h' s.heap.objs.size (setK ks)) hh ho hc hd (fun {R i St z} W hnf hi ho0 kp st0 fin => ?_) h
  refine fill_setKs W.toS s.heap.objs.size hnf ks hsz hb (fun j v hj => ?_) (xs.size - 0) 0 _ (by omega) (Nat.zero_le _) st0 (setKs_new ho0) fun z' mv S1 => fin z' mv S1
  have hj' : j < xs.size := (Array.getElem?_eq_some_iff.mp hj).1
  have hk : j < ks.length := by omega
  refine ⟨ks[j], List.getElem?_eq_getElem hk, ?_⟩
  have e1 : (ks.map kV)[j]? = some (kV ks[j]) := by rw [List.getElem?_map, List.getElem?_eq_getElem hk]; rfl
  have e2 : xs.toList[j]? = some v := by rw [Array.getElem?_toList]; exact hj
  obtain ⟨v', e3, r3⟩ := hv.get e1
  rw [e2] at e3
  cases e3
  exact r3
end
end DL
set_option maxRecDepth 100000
set_option maxHeartbeats 4000000
/-! HX3: sorted(set(xs)). -/
namespace DL
open PySem PySem.Spec PyProof.Rows L2 Srt
def ltK (v u : Value) : Bool := keyLt (keyIn v) (keyIn u)
theorem swoKey : SrtO.Swo ltK := by
  refine ⟨fun x y h => keyLt_asym h, fun x y z h1 h2 => ?_⟩
  show keyLt (keyIn z) (keyIn x) = false
  cases q : keyLt (keyIn z) (keyIn x) with
  | false => rfl
  | true =>
    rcases keyLt_tri (keyIn x) (keyIn y) with c | c | c
    · have := keyLt_tr q c
      have h2' : keyLt (keyIn z) (keyIn y) = false := h2
      rw [this] at h2'; cases h2'
    · have h2' : keyLt (keyIn z) (keyIn y) = false := h2
      rw [← c, q] at h2'; cases h2'
    · have h1' : keyLt (keyIn y) (keyIn x) = false := h1
      rw [c] at h1'; cases h1'
theorem key_shape {v : Value} {k : Key} (r : RelV (kV k) v) : keyIn v = k := by
  cases k with
  | inl i => obtain ⟨t, rfl⟩ := r; rfl
  | inr x => obtain ⟨t, rfl⟩ := r; rfl
/-- all ints, or all texts -/
def KindB (b : Bool) (vs : List Value) : Prop := ∀ v ∈ vs, ∃ k : Key, k.isRight = b ∧ RelV (kV k) v
theorem kind_ints : ∀ {vs : List Value}, KindB false vs → ∃ ns, IntsAre vs ns
  | [], _ => ⟨[], .nil⟩
  | v :: vs, h => by
    obtain ⟨ns, hn⟩ := kind_ints fun u hu => h u (List.mem_cons_of_mem _ hu)
    obtain ⟨k, hk, r⟩ := h v List.mem_cons_self
    cases k with
    | inr x => cases hk
    | inl i => obtain ⟨t, rfl⟩ := r; exact ⟨_, .cons i t hn⟩
theorem kind_strs : ∀ {vs : List Value}, KindB true vs → ∃ ns, StrsAre vs ns
  | [], _ => ⟨[], .nil⟩
  | v :: vs, h => by
    obtain ⟨ns, hn⟩ := kind_strs fun u hu => h u (List.mem_cons_of_mem _ hu)
    obtain ⟨k, hk, r⟩ := h v List.mem_cons_self
    cases k with
    | inl x => cases hk
    | inr i => obtain ⟨t, rfl⟩ := r; exact ⟨_, .cons i t hn⟩
section
variable {P : Program} {w : World} {A : Around} {E : Value → Shared → Prop} {s : Shared}
theorem sortableKs {a : Addr} {vs : List Value} {b : Bool} (g : KindB b vs) (h2 : 2 ≤ vs.length) : SrtO.SortableO P w A s a vs ltK := by
  intro h' keep
  refine ⟨oneType', fun Q E' hq => ?_, fun p q hp hq => ?_⟩
  · obtain ⟨v₁, v₂, rs, e⟩ : ∃ v₁ v₂ rs, vs = v₁ :: v₂ :: rs := by
      cases vs with
      | nil => simp at h2
      | cons v₁ r => cases r with
        | nil => simp at h2
        | cons v₂ rs => exact ⟨_, _, _, rfl⟩
    subst e
    cases b with
    | true =>
      obtain ⟨ns, hn⟩ := kind_strs g
      rw [keyKind_strs hn]
      exact wpAny_pure hq
    | false =>
      obtain ⟨ns, hn⟩ := kind_ints g
      rw [keyKind_ints hn]
      exact wpAny_pure hq
  · obtain ⟨k, k1, rk⟩ := g _ hp
    obtain ⟨j, j1, rj⟩ := g _ hq
    show wpAny (model P w) A (oneLt' true p.1 q.1) (fun r s' => s' = _ ∧ r = keyLt (keyIn p.1) (keyIn q.1)) _ _
    rw [key_shape rk, key_shape rj]
    cases k with
    | inl x =>
      cases j with
      | inr y => rw [← k1] at j1; cases j1
      | inl y =>
        obtain ⟨t, e1⟩ := rk
        obtain ⟨u, e2⟩ := rj
        have z := SrtO.int_cmp (prog := P) (w := w) (A := A) (s := { s with heap := h' }) (IntsAre.cons x t (.cons y u .nil)) p q (by show p.1 ∈ _; rw [e1]; simp) (by show q.1 ∈ _; rw [e2]; simp)
        have q' : wpAny (model P w) A (oneLt' true p.1 q.1) (fun r s' => s' = { s with heap := h' } ∧ r = SrtO.ltIv p.1 q.1) _ { s with heap := h' } := z
        have e3 : SrtO.ltIv p.1 q.1 = keyLt (.inl x) (.inl y) := by rw [e1, e2]; rfl
        rw [e3] at q'
        exact q'
    | inr x =>
      cases j with
      | inl y => rw [← k1] at j1; cases j1
      | inr y =>
        obtain ⟨t, e1⟩ := rk
        obtain ⟨u, e2⟩ := rj
        rw [e1, e2]
        exact lessS true ⟨rfl, rfl⟩
/-- sorted(a), a the set -/
theorem sorted_setKs {a : Addr} {S : List Key} {b : Bool} {Q : Value → Shared → Prop} (R : SetKs P w s.heap a S) (hk : ∀ k ∈ S, k.isRight = b) (hh : A.handled = none)
    (hQ : ∀ s' p (out : List Value) (c : Nat) (ys : List Key), (∀ b o, s.heap.get? b = some o → s'.heap.get? b = some o) → s'.gens = s.gens → s'.os = s.os → s.heap.objs.size ≤ p →
      s'.heap.get? p = some (seqObj "list" out.toArray c) → Vals (ys.map kV) out → ys.Perm S → ys.Pairwise (fun x y => keyLt x y = true) → Q (.ref p) s') :
    wpAny (model P w) A (call (.builtin "sorted") [.ref a]) Q E s := by
  obtain ⟨o, es, ep, t, ho, hex, hd, g, pS, nd, hb, hf, hr, hl⟩ := R
  refine Calls.call_function_entry kind_sorted plain_sorted entry_sorted (args_sorted1 _) ?_
  unfold Builtin.«sorted»
  refine wpAny_bind (m := checkCount "sorted" 1 1 _) (wpAny_pure ?_)
  refine wpAny_bind (collect_set (A := A.in1) hh ⟨o, ho, hex.1, hd⟩ hf hb hr hl fun s1 vs k1 hz g1 o1 pm => ?_)
  have each : ∀ v ∈ vs, ∃ e ∈ es.toList, e.2 = v := fun v hv => List.mem_map.mp (pm.mem_iff.mp hv)
  have rel : ∀ v ∈ vs, RelV (kV (keyIn v)) v := fun v hv => by
    obtain ⟨e, he, rfl⟩ := each v hv
    exact relV_key (is_kOf g he)
  have pk : (vs.map keyIn).Perm S := by
    have q := pm.map keyIn
    rw [List.map_map] at q
    exact q.trans pS
  have kb : KindB b vs := fun v hv => ⟨keyIn v, hk _ (pk.mem_iff.mp (List.mem_map.mpr ⟨v, hv, rfl⟩)), rel v hv⟩
  have hvl : vs.length ≤ sizeLine := by
    rw [pm.length_eq, List.length_map, Array.length_toList]
    exact fits_of_scanBound hb
  refine wpAny_bind (wpAny_newList ?_ hvl)
  have hoL : (s1.heap.push (seqObj "list" vs.toArray 0)).get? s1.heap.objs.size = some (seqObj "list" vs.toArray 0) := Heap.get?_push_size _ rfl
  refine wpAny_bind (wpAny_holding (wpAny_call_entry slot_list_sort ⟨_, hoL, rfl⟩ entry_list_sort (SrtO.list_sort_ord swoKey hoL hvl (fun h2 => sortableKs kb h2) fun out a1 a2 => ⟨_, rfl, ?_⟩) (args_list_sort _)))
  obtain ⟨c, hc⟩ := sortedHeap_at (vs := vs) (out := out.toArray) hoL
  have po := a2.perm
  have pn : (out.map keyIn).Perm S := (po.map keyIn).trans pk
  have rout : ∀ {l : List Value}, (∀ v ∈ l, v ∈ vs) → Vals ((l.map keyIn).map kV) l := fun {l} => by
    induction l with
    | nil => intro _; exact .nil
    | cons v l ih => intro q; exact .cons (rel v (q v List.mem_cons_self)) (ih fun u hu => q u (List.mem_cons_of_mem _ hu))
  refine wpAny_pure ⟨_, rfl, hQ _ s1.heap.objs.size out c (out.map keyIn) (fun b u e => ?_) g1 o1 hz hc (rout fun v hv => po.mem_iff.mp hv) pn ?_⟩
  · have q := k1 b u e
    have hlt := Heap.lt_size q
    show (sortedHeap (s1.heap.push (seqObj "list" vs.toArray 0)) s1.heap.objs.size vs out.toArray).get? b = some u
    rw [sortedHeap_old (Nat.ne_of_lt hlt) (by rw [size_push']; exact Nat.lt_succ_of_lt hlt)]
    exact Heap.get?_push_of_some _ q
  · have nd2 : (out.map keyIn).Nodup := pn.nodup_iff.mpr nd
    have w1 : (out.map keyIn).Pairwise (fun x y => keyLt y x = false) := List.pairwise_map.mpr a1
    exact (w1.and nd2).imp fun {x y} h => by
      rcases keyLt_tri x y with c | c | c
      · exact c
      · exact absurd c h.2
      · rw [h.1] at c; cases c
end
theorem kLt_uniq : ∀ {l m : List Key}, l.Perm m → l.Pairwise (fun x y => keyLt x y = true) → m.Pairwise (fun x y => keyLt x y = true) → l = m
  | [], m, p, _, _ => (List.Perm.nil_eq p)
  | x :: l, [], p, _, _ => absurd p.length_eq (by simp)
  | x :: l, y :: m, p, h1, h2 => by
    obtain ⟨a1, a2⟩ := List.pairwise_cons.mp h1
    obtain ⟨b1, b2⟩ := List.pairwise_cons.mp h2
    have e : x = y := by
      rcases List.mem_cons.mp (p.mem_iff.mp List.mem_cons_self) with q | q
      · exact q
      · rcases List.mem_cons.mp (p.mem_iff.mpr (List.mem_cons_self (a := y) (l := m))) with z | z
        · exact z.symm
        · have := keyLt_asym (b1 x q)
          rw [a1 y z] at this; cases this
    subst e
    rw [kLt_uniq (List.Perm.cons_inv p) a2 b2]
/-- sorted(set(ks)) -/
def ascK (ks : List Key) : List Key := (setK ks).mergeSort fun a b => !keyLt b a
theorem ascK_perm (ks : List Key) : (ascK ks).Perm (setK ks) := List.mergeSort_perm _ _
theorem ascK_nd (ks : List Key) : (ascK ks).Nodup := (ascK_perm ks).nodup_iff.mpr (setK_nd ks)
theorem ascK_mem {ks : List Key} {k : Key} : k ∈ ascK ks ↔ k ∈ ks := by rw [(ascK_perm ks).mem_iff, setK_mem]
theorem ascK_lt (ks : List Key) : (ascK ks).Pairwise fun x y => keyLt x y = true := by
  have h : (ascK ks).Pairwise fun a b => (!keyLt b a) = true := by
    refine List.pairwise_mergeSort (fun a b c h1 h2 => ?_) (fun a b => ?_) _
    · cases q : keyLt c a with
      | false => rfl
      | true =>
        rcases keyLt_tri a b with z | z | z
        · rw [keyLt_tr q z] at h2; cases h2
        · rw [← z, q] at h2; cases h2
        · rw [z] at h1; cases h1
    · cases q : keyLt b a with
      | false => simp
      | true => rw [keyLt_asym q]; simp
  exact (h.and (ascK_nd ks)).imp fun {x y} h => by
    rcases keyLt_tri x y with c | c | c
    · exact c
    · exact absurd c h.2
    · have := h.1; rw [c] at this; cases this
theorem ascK_eq {ks ys : List Key} (p : ys.Perm (setK ks)) (h : ys.Pairwise fun x y => keyLt x y = true) : ys = ascK ks := kLt_uniq (p.trans (ascK_perm ks).symm) h (ascK_lt ks)
section
variable {X : Cx}
def tSortSet (K : PySem.W.Frag) (ta : TE) : TE := fun σ H Q => ta σ H fun x H1 => ∃ (l : Addr) (ks : List Key) (b : Bool), x = .ref l ∧ (SqL K H1 l (ks.map kV) ∨ SqT K H1 l (ks.map kV)) ∧ ks.length + 1 < scanBound ∧ (∀ k ∈ ks, k.isRight = b) ∧
  ∀ p, H1 p = none → Q (.ref p) (upd H1 p (.lst ((ascK ks).map kV)))
theorem boot_sorted : bootBuiltins "sorted" = some (.builtin "sorted") := by kernel_rfl
theorem pe_sortSet {a : Expr} {ta : TE} {p p2 q pos : Pos} (hc : X.calm = true) (hg : Gl X "sorted") (hm : X.mg "sorted" = none) (hg2 : Gl X "set") (hm2 : X.mg "set" = none) (ha : PE X a ta)
    (na : starEach [a] X.env = (false, eval a X.env) :: starEach [] X.env := by rfl) : PE X (.Call (.Name "sorted" p) [.Call (.Name "set" p2) [a] [] q] [] pos) (tSortSet X.K ta) := by
  refine ⟨fun pins s σ H Q I h => ?_⟩
  refine Call_ (ld_blt I hg hm boot_sorted ?_)
  refine PyProof.Rows.callWith_builtin1 (PyProof.Rows.args_cons ?_ rfl) rfl rfl
  refine Call_ (ld_blt I hg2 hm2 boot_set ?_)
  refine PyProof.Rows.callWith_type1 (PyProof.Rows.args_cons (thn (ha.run pins s σ H _ I h) fun v s1 ⟨x, H1, I1, r1, q1⟩ => PyProof.Rows.args_nil ?_) na) na rfl
  obtain ⟨l, ks, b, rfl, hq, hb, hk, q1⟩ := q1
  cases r1
  have fin : ∀ (h' : Heap) (tk : Nat), SetKs X.prog X.w h' s1.heap.objs.size (setK ks) → (∀ b o, s1.heap.get? b = some o → h'.get? b = some o) →
      wpAny (model X.prog X.w) X.A (spliced (backTo pos (starEach [] X.env))) (fun vs s₂ => wpAny (model X.prog X.w) X.A (call (.builtin "sorted") (Value.ref s1.heap.objs.size :: vs)) (EP X pins σ Q) X.xe s₂) X.xe { s1 with heap := h', toks := tk } := fun h' tk hS kp => by
    refine PyProof.Rows.args_nil ?_
    refine sorted_setKs (s := { s1 with heap := h', toks := tk }) (b := b) hS (fun k hk' => hk k (setK_mem.mp hk')) (I1.ok.hd hc) fun s' p out c ys k g o hp hg' hv pm ps => ?_
    have ey := ascK_eq pm ps
    subst ey
    have lt0 : s1.heap.objs.size ≤ p := Nat.le_trans (Nat.le_of_lt (by obtain ⟨o, _, _, _, ho, _⟩ := hS; exact Heap.lt_size ho)) hp
    have kk : ∀ b o, s1.heap.get? b = some o → s'.heap.get? b = some o := fun b o e => k b o (kp b o e)
    have hn : H1 p = none := I1.hok.fresh lt0
    have hlen : ((ascK ks).map kV).length ≤ sizeLine := by
      rw [List.length_map, (ascK_perm ks).length_eq]
      exact Nat.le_trans (setK_len ks) (fits_of_scanBound (by omega))
    have J : Inv X pins σ (upd H1 p (.lst ((ascK ks).map kV))) { s1 with heap := s'.heap, gens := s'.gens, drawn := s'.drawn, toks := s'.toks } :=
      I1.call (ch := []) (Un.laid kk lt0 hn) (I1.hok.laid kk lt0 ⟨hlen, out, c, hv, hg'⟩) (by rw [g]; exact I1.bare) (fun _ z => nomatch z)
    have e : s' = { s1 with heap := s'.heap, gens := s'.gens, drawn := s'.drawn, toks := s'.toks } := by
      cases s'
      cases s1
      cases o
      rfl
    rw [e]
    exact ⟨.ref p, _, J, rfl, q1 p hn⟩
  rcases hq with hq | hq
  · obtain ⟨its, r, pl, hz⟩ := I1.list hq
    obtain ⟨o, n, g1, g2, _, g3⟩ := pl
    exact call_setKs (seqLst _ _) ks (I1.ok.hd hc) g1 g2 g3 r hb fin
  · obtain ⟨its, r, ⟨o, g1, g2, n, g3⟩, hz⟩ := I1.tuple hq
    exact call_setKs (seqTup _ _) ks (I1.ok.hd hc) g1 g2 g3 r hb fin
end
end DL
set_option maxRecDepth 100000
set_option maxHeartbeats 4000000
/-! HX4: sets of tuples of texts and ints, fewer than 64 members. -/
namespace DL
open PySem PySem.Spec PyProof.Rows L2 Srt
abbrev TH (P : Program) (w : World) (k : List Key) : Int := tupleKeyHash (mixKind P w) k
abbrev TAt (P : Program) (w : World) (h : Heap) (k : List Key) (b : Addr) : Prop := IsTupleKey (mixKind P w) h k b
abbrev Ent := Addr × List Key
def ents (P : Program) (w : World) (L : List Ent) : List (Int × Value) := L.map fun q => (TH P w q.2, Value.ref q.1)
theorem ents_len {P : Program} {w : World} {L : List Ent} {es : Array (Int × Value)} (h : es.toList = ents P w L) : es.size = L.length := by
  rw [← Array.length_toList, h]
  exact List.length_map ..
theorem ents_at {P : Program} {w : World} {L : List Ent} {es : Array (Int × Value)} (h : es.toList = ents P w L) {i : Nat} {q : Ent} (hq : L[i]? = some q) : es[i]? = some (TH P w q.2, Value.ref q.1) := by
  rw [← Array.getElem?_toList, h]
  unfold ents
  rw [List.getElem?_map, hq]; rfl
section
variable {P : Program} {w : World} {A : Around} {E : Value → Shared → Prop} {s : Shared}
/-! ### what is asked of a tuple -/
theorem askKey : ∀ {k : List Key} {vs : List Value}, ItemsAre (mixKind P w) k vs → ∀ v ∈ vs, ∀ n, ofAClassStatement n v = pure false ∧ ∃ r, hashByValue n v = pure r := fun h => by
  induction h with
  | nil => intro v hv; cases hv
  | cons h1 _ ih =>
    intro v hv n
    rcases List.mem_cons.mp hv with e | hv
    · subst e
      rcases keyIs_shape h1 with ⟨i, t, _, rfl⟩ | ⟨x, t, _, rfl⟩ <;> (cases n <;> exact ⟨rfl, _, rfl⟩)
    · exact ih v hv n
theorem noClass {k : List Key} {b : Addr} {Q : Bool → Shared → Prop} (hk : TAt P w s.heap k b) (h : Q false s) : wpAny (model P w) A (ofAClassStatement 8 (.ref b)) Q E s := by
  have ty := hk.typeIs
  obtain ⟨o, its, n, ho, _, hd, hi⟩ := hk
  unfold ofAClassStatement
  refine wpAny_bind (wpAny_typeOf ty ?_)
  dsimp only
  simp only [show (("tuple" : String) == "tuple") = true from by decide, if_true, Bool.not_true, Bool.false_eq_true, if_false]
  try refine wpAny_bind (wpAny_pure ?_)
  try simp only [Bool.not_true, Bool.false_eq_true, if_false]
  show wpAny _ _ (seqItems? (.ref b) >>= _) _ _ s
  refine wpAny_bind (wpAny_seqItems ho hd ?_)
  dsimp only
  refine wpAny_bind ?_
  show wpAny _ _ (forIn its _ _) _ _ s
  rw [← Array.forIn_toList]
  refine wpAny_forIn_list _ (fun left r z => r.1 = none ∧ z = s ∧ ∀ v ∈ left, v ∈ its.toList) _ ?_ ?_ _ _ ⟨rfl, rfl, fun v hv => hv⟩
  · rintro v left r z ⟨hr, rfl, inc⟩
    rw [(askKey hi v (inc v List.mem_cons_self) _).1]
    refine wpAny_bind (wpAny_pure ?_)
    simp only [Bool.false_eq_true, if_false]
    exact wpAny_pure ⟨rfl, rfl, fun u hu => inc u (List.mem_cons_of_mem _ hu)⟩
  · rintro ⟨r1, r2⟩ z ⟨hr, rfl, _⟩
    obtain rfl : r1 = none := hr
    exact wpAny_pure h
theorem byVal {k : List Key} {b : Addr} {Q : Bool → Shared → Prop} (hk : TAt P w s.heap k b) (h : ∀ r, Q r s) : wpAny (model P w) A (hashByValue 8 (.ref b)) Q E s := by
  have ty := hk.typeIs
  obtain ⟨o, its, n, ho, _, hd, hi⟩ := hk
  unfold hashByValue
  refine wpAny_bind (wpAny_specialOf ty F.slot_tuple_hash.lookup ?_)
  show wpAny _ _ (seqItems? (.ref b) >>= _) _ _ s
  refine wpAny_bind (wpAny_seqItems ho hd ?_)
  refine wpAny_bind ?_
  show wpAny _ _ (forIn its _ _) _ _ s
  rw [← Array.forIn_toList]
  refine (?_ : ∀ left : List Value, (∀ v ∈ left, v ∈ its.toList) → ∀ r0, wpAny _ _ (forIn left r0 _) _ _ s) its.toList (fun v hv => hv) _
  intro left
  induction left with
  | nil =>
    intro _ r0
    rw [List.forIn_nil]
    refine wpAny_pure ?_
    dsimp only
    split
    · exact wpAny_pure (h _)
    · exact wpAny_pure (h _)
  | cons v left ih =>
    intro inc r0
    rw [List.forIn_cons]
    obtain ⟨r, e⟩ := (askKey hi v (inc v List.mem_cons_self) 7).2
    rw [e]
    refine wpAny_bind (wpAny_bind (wpAny_pure ?_))
    cases r with
    | false =>
      simp only [Bool.not_false, if_true]
      refine wpAny_pure ?_
      dsimp only
      refine wpAny_pure ?_
      exact wpAny_pure (h _)
    | true =>
      simp only [Bool.not_true, Bool.false_eq_true, if_false]
      refine wpAny_pure ?_
      dsimp only
      exact ih (fun u hu => inc u (List.mem_cons_of_mem _ hu)) _
theorem unseen {k : List Key} {b : Addr} {Q : Bool → Shared → Prop} (hk : TAt P w s.heap k b) {ys : List Value} (hy : ∀ y ∈ ys, ∃ j c, y = Value.ref c ∧ TAt P w s.heap j c) (h : Q false s) :
    wpAny (model P w) A (searchCouldBeSeen (.ref b) ys) Q E s := by
  unfold searchCouldBeSeen
  refine wpAny_bind ?_
  refine wpAny_forIn_list _ (fun left r z => r.1 = none ∧ z = s ∧ ∀ y ∈ left, y ∈ ys) _ ?_ ?_ _ _ ⟨rfl, rfl, fun v hv => hv⟩
  · rintro v left r z ⟨hr, rfl, inc⟩
    obtain ⟨j, c, rfl, hc⟩ := hy v (inc v List.mem_cons_self)
    have inc' : ∀ y ∈ left, y ∈ ys := fun u hu => inc u (List.mem_cons_of_mem _ hu)
    dsimp only
    by_cases same : (b == c || (carriedByValue (.ref b) && carriedByValue (.ref c))) = true
    · exact wp_if_pos same (wpAny_pure ⟨rfl, rfl, inc'⟩)
    · refine wp_if_neg same (wpAny_bind (wpAny_eqIsQuiet_tuple hk ?_))
      simp only [Bool.not_true, Bool.false_eq_true, if_false]
      refine wpAny_bind (wpAny_eqIsQuiet_tuple hc ?_)
      simp only [Bool.not_true, Bool.false_eq_true, if_false]
      refine wpAny_bind (noClass hk ?_)
      simp only [Bool.false_eq_true, if_false]
      refine wpAny_bind (noClass hc ?_)
      simp only [Bool.false_eq_true, if_false]
      exact wpAny_pure ⟨rfl, rfl, inc'⟩
  · rintro ⟨r1, r2⟩ z ⟨hr, rfl, _⟩
    obtain rfl : r1 = none := hr
    exact wpAny_pure h
/-! ### the set -/
structure TSet (P : Program) (w : World) (h : Heap) (a : Addr) (L : List Ent) (es : Array (Int × Value)) (ep : Nat) (t : SetTable) : Prop where
  ob : ∃ o, h.get? a = some o ∧ o.ExactSet ∧ o.data = .set es ep t
  en : es.toList = ents P w L
  tab : TabOk t (L.map fun q => TH P w q.2)
  nd : (L.map (·.2)).Nodup
  tup : ∀ q ∈ L, TAt P w h q.2 q.1
  led : w.params.followText "set-order" = true ∨ t.led = true
  room : L.length * 5 < t.mask * 3
  few : L.length < 64
variable {a : Addr} {L : List Ent} {es : Array (Int × Value)} {ep : Nat} {t : SetTable}
theorem TSet.fits (R : TSet P w s.heap a L es ep t) : t.fits es.size = true := by
  have h1 := R.tab.sz
  rw [List.length_map] at h1
  have h2 := ents_len R.en
  have h3 := R.room
  unfold SetTable.fits SetTable.fill
  rw [R.tab.dm, Bool.and_eq_true, beq_iff_eq, decide_eq_true_eq]
  refine ⟨h1.trans h2.symm, ?_⟩
  show t.place.size + 0 ≤ t.mask
  omega
theorem nth_dm {m : Nat} : ∀ (n : Nat) (p : SetTable.Probe), p.dummy = none → (nth m p n).dummy = none
  | 0, _, h => h
  | n + 1, p, h => nth_dm n (adv m p) (by unfold adv; split <;> exact h)
/-- the way's c-th place -/
abbrev pr (t : SetTable) (h : Int) (c : Nat) : SetTable.Probe := nth t.mask (runAt t.mask (SetTable.bits h % (t.mask + 1)) (SetTable.bits h)) c
theorem seek (R : TSet P w s.heap a L es ep t) {x : Addr} {k : List Key} (hx : TAt P w s.heap k x) (hu : A.units < cLine) {N : Nat} (hN : N < 10 * SetTable.turns t.mask)
    (e0 : way t.mask (TH P w k) N ∉ t.place.toList) (eb : ∀ c, c < N → way t.mask (TH P w k) c ∈ t.place.toList) {Q : SetFound → Shared → Prop}
    (q1 : k ∈ L.map (·.2) → Q (.there none) s) (q2 : k ∉ L.map (·.2) → Q (.free (way t.mask (TH P w k) N) false) s) :
    ∀ (f c : Nat) (st : Option SetTable.Probe), st.getD (t.probeStart (TH P w k)) = pr t (TH P w k) c → c ≤ N → N - c < f →
      (∀ (i : Nat) q, L[i]? = some q → q.2 = k → ∃ d, c ≤ d ∧ d < N ∧ t.place.toList[i]? = some (way t.mask (TH P w k) d)) →
      wpAny (model P w) A (setSearchFrom a (.ref x) (TH P w k) true f st) Q E s
  | 0, c, st, _, _, hf, _ => absurd hf (Nat.not_lt_zero _)
  | f + 1, c, st, hst, hc, hf, re => by
    obtain ⟨o, ho, hex, hd⟩ := R.ob
    rw [setSearchFrom_succ]
    refine wpAny_bind (wpAny_setState_of ho hd R.fits ?_)
    dsimp only
    refine wp_if_neg (by unfold SetTable.gaveWay; rw [mask_odd R.tab.mok]; decide) ?_
    try refine wpAny_bind (wpAny_pure ?_)
    have on : ∀ q, nth t.mask (pr t (TH P w k) c) q = pr t (TH P w k) (c + q) := fun q => (nth_add t.mask c _ q).symm
    have onj : ∀ q, (nth t.mask (pr t (TH P w k) c) q).j = way t.mask (TH P w k) (c + q) := fun q => congrArg SetTable.Probe.j (on q)
    have sum : c + (N - c) = N := by omega
    have hs : ∀ (i : Nat) q, L[i]? = some q → (fun i => (es[i]?.map (·.1)).getD 0) i = TH P w q.2 := fun i q hq => by
      show (es[i]?.map (·.1)).getD 0 = _
      rw [ents_at R.en hq]; rfl
    rcases go_spec t R.tab.ris R.tab.dm (fun i => (es[i]?.map (·.1)).getD 0) (TH P w k) (10 * SetTable.turns t.mask) (N - c) (pr t (TH P w k) c) (nth_dm c _ rfl) (by omega)
      (fun q hq => by rw [onj]; exact eb _ (by omega)) (by rw [onj, sum]; exact e0) with ⟨q, i, hq, hi, _, no, go⟩ | ⟨no, go⟩
    · have go' : t.probe (fun i => (es[i]?.map (·.1)).getD 0) (TH P w k) (st.getD (t.probeStart (TH P w k))) = some (.candidate (way t.mask (TH P w k) (c + q)) i (pr t (TH P w k) (c + (q + 1)))) := by
        rw [hst, ← onj, ← on]; exact go
      rw [go']
      dsimp only
      rw [onj] at hi
      have il : i < L.length := by
        have a1 := (List.getElem?_eq_some_iff.mp hi).1
        have a2 := R.tab.sz
        rw [List.length_map] at a2
        rw [Array.length_toList] at a1
        omega
      obtain ⟨y, hy⟩ : ∃ y, L[i]? = some y := ⟨_, List.getElem?_eq_getElem il⟩
      have ym := List.mem_of_getElem? hy
      have rest : wpAny (model P w) A (searchRest a (.ref x) (TH P w k) true f es t (way t.mask (TH P w k) (c + q)) i (pr t (TH P w k) (c + (q + 1)))) Q E s := by
        unfold searchRest
        rw [ents_at R.en hy]
        dsimp only
        refine wpAny_bind (wpAny_holding (wpAny_eqBool_tuple hu (R.tup y ym) hx ?_))
        refine wpAny_bind (wpAny_setState_of ho hd R.fits ?_)
        dsimp only
        by_cases yk : y.2 = k
        · exact wp_if_pos (by simp [yk]) (wpAny_pure (q1 (List.mem_map.mpr ⟨y, ym, yk⟩)))
        · refine wp_if_neg (by simp [yk]) ?_
          try refine wpAny_bind (wpAny_pure ?_)
          rw [sameMem]
          dsimp only
          have lv := slot_live R.tab.ris hi
          simp only [if_true, lv, ents_at R.en hy]
          refine wpAny_bind (wpAny_isSame_ref_self (wpAny_bind (wpAny_pure ?_)))
          simp only [if_true]
          refine wp_if_neg (by simp [yk]) (seek R hx hu hN e0 eb q1 q2 f (c + (q + 1)) _ rfl (by omega) (by omega) fun i1 y1 h1 k1 => ?_)
          obtain ⟨d, d1, d2, d3⟩ := re i1 y1 h1 k1
          refine ⟨d, ?_, d2, d3⟩
          by_cases z : d < c + q
          · refine absurd ((hs i1 y1 h1).trans (congrArg (TH P w) k1)) (no (d - c) i1 (by omega) ?_)
            rw [onj, show c + (d - c) = d from by omega]; exact d3
          · by_cases z2 : d = c + q
            · rw [z2] at d3
              have s2 := slot_live R.tab.ris d3
              rw [lv] at s2
              injection s2 with s2
              rw [← s2, hy] at h1
              exact absurd ((congrArg Prod.snd (Option.some.inj h1)).trans k1) yk
            · omega
      by_cases hl : t.led = true
      · refine wp_if_neg (by simp [hl]) ?_
        try refine wpAny_bind (wpAny_pure ?_)
        exact rest
      · refine wp_if_pos (by simp [hl]) (wpAny_bind (unseen hx (fun y hy => ?_) (wp_if_neg (by decide) ?_)))
        · obtain ⟨e, he, ee⟩ := List.mem_map.mp hy
          have he1 : e ∈ es ∧ e.1 = TH P w k := by simpa using he
          have he2 : e ∈ es.toList := by simpa using he1.1
          rw [R.en] at he2
          obtain ⟨p2, hp2, e2⟩ := List.mem_map.mp he2
          exact ⟨p2.2, p2.1, by rw [← ee, ← e2], R.tup p2 hp2⟩
        · try refine wpAny_bind (wpAny_pure ?_)
          exact rest
    · have go' : t.probe (fun i => (es[i]?.map (·.1)).getD 0) (TH P w k) (st.getD (t.probeStart (TH P w k))) = some (.empty (way t.mask (TH P w k) N) none) := by
        have e2 : way t.mask (TH P w k) N = (nth t.mask (pr t (TH P w k) c) (N - c)).j := by rw [onj, sum]
        rw [hst, e2]; exact go
      rw [go']
      dsimp only
      refine wpAny_pure (q2 fun hm => ?_)
      obtain ⟨y, ym, yk⟩ := List.mem_map.mp hm
      obtain ⟨i, hi, e⟩ := List.getElem_of_mem ym
      have hy : L[i]? = some y := by rw [List.getElem?_eq_getElem hi, e]
      obtain ⟨d, d1, d2, d3⟩ := re i y hy yk
      refine no (d - c) i (by omega) ?_ ((hs i y hy).trans (congrArg (TH P w) yk))
      rw [onj, show c + (d - c) = d from by omega]; exact d3
theorem seek0 (R : TSet P w s.heap a L es ep t) {x : Addr} {k : List Key} (hx : TAt P w s.heap k x) (hu : A.units < cLine) {Q : SetFound → Shared → Prop} (q1 : k ∈ L.map (·.2) → Q (.there none) s)
    (q2 : ∀ N, k ∉ L.map (·.2) → way t.mask (TH P w k) N ∉ t.place.toList → (∀ c, c < N → way t.mask (TH P w k) c ∈ t.place.toList) → Q (.free (way t.mask (TH P w k) N) false) s) :
    wpAny (model P w) A (setSearch a (.ref x) (TH P w k) true) Q E s := by
  have room := R.room
  obtain ⟨N, n1, n2, n3⟩ := R.tab.first (by rw [List.length_map]; omega) (TH P w k)
  have big : N < 100000 := by
    refine Nat.lt_of_lt_of_le n1 ?_
    unfold SetTable.turns
    rcases R.tab.mok with e | e | e <;> omega
  unfold setSearch
  refine seek R hx hu n1 n2 n3 q1 (fun hn => q2 N hn n2 n3) 100000 0 none rfl (Nat.zero_le _) (by omega) fun i q hq hk => ?_
  have hi : (L.map fun q => TH P w q.2)[i]? = some (TH P w k) := by rw [List.getElem?_map, hq, ← hk]; rfl
  have il : i < t.place.toList.length := by
    have a1 := (List.getElem?_eq_some_iff.mp hq).1
    have a2 := R.tab.sz
    rw [List.length_map] at a2
    rw [Array.length_toList]
    omega
  obtain ⟨d, hd, e⟩ := R.tab.before n2 hi (List.getElem?_eq_getElem il)
  exact ⟨d, Nat.zero_le _, hd, by rw [List.getElem?_eq_getElem il, e]⟩
end
end DL
set_option maxRecDepth 100000
set_option maxHeartbeats 4000000
/-! HX5: adding to a set of tuples; set(xs); sorted(set(xs)). -/
namespace DL
open PySem PySem.Spec PyProof.Rows L2 Srt
section
variable {P : Program} {w : World} {A : Around} {E : Value → Shared → Prop} {s : Shared}
theorem TAt.stay {h h' : Heap} {k : List Key} {b : Addr} (x : TAt P w h k b) (q : ∀ c o, h.get? c = some o → h'.get? c = some o) : TAt P w h' k b := by
  obtain ⟨o, its, n, ho, r⟩ := x
  exact ⟨o, its, n, q b o ho, r⟩
theorem TAt.beside {h h' : Heap} {k : List Key} {a b : Addr} {o : Obj} {es : Array (Int × Value)} {ep : Nat} {t : SetTable} (x : TAt P w h k b) (ho : h.get? a = some o) (hd : o.data = .set es ep t) (sb : Heap.SameBut a h h') : TAt P w h' k b := by
  obtain ⟨o', its, n, ho', hc, hd', hi⟩ := x
  have ne : b ≠ a := fun z => by
    subst z
    rw [ho] at ho'
    cases ho'
    rw [hd] at hd'
    cases hd'
  exact ⟨o', its, n, (sb.2 b ne).trans ho', hc, hd', hi⟩
theorem picked (L : List Ent) (es : Array (Int × Value)) (hr : es.toList = ents P w L) : ∀ l : List Nat, (∀ i ∈ l, i < L.length) →
    ∃ M : List Ent, l.filterMap (fun i => es[i]?) = ents P w M ∧ M = l.filterMap (fun i => L[i]?) ∧ (M.map fun q => TH P w q.2) = l.map fun i => (es.map (·.1)).getD i 0
  | [], _ => ⟨[], rfl, rfl, rfl⟩
  | i :: l, hl => by
    obtain ⟨M, e1, e2, e3⟩ := picked L es hr l fun j hj => hl j (List.mem_cons_of_mem _ hj)
    have li := hl i List.mem_cons_self
    obtain ⟨y, hy⟩ : ∃ y, L[i]? = some y := ⟨_, List.getElem?_eq_getElem li⟩
    have ey := ents_at hr hy
    refine ⟨y :: M, ?_, ?_, ?_⟩
    · rw [List.filterMap_cons_some ey, e1]; rfl
    · rw [List.filterMap_cons_some hy, e2]
    · rw [List.map_cons, List.map_cons, e3]
      have : (es.map (·.1))[i]? = some (TH P w y.2) := by rw [Array.getElem?_map, ey]; rfl
      simp [Array.getD_eq_getD_getElem?, this]
theorem all_picked {α : Type} (L : List α) : (List.range L.length).filterMap (fun i => L[i]?) = L := by
  have h : ∀ n, n ≤ L.length → (List.range n).filterMap (fun i => L[i]?) = L.take n := by
    intro n
    induction n with
    | zero => intro _; rfl
    | succ n ih =>
      intro hn
      rw [List.range_succ, List.filterMap_append, ih (Nat.le_of_lt hn), List.take_succ, List.getElem?_eq_getElem hn, List.filterMap_cons_some (List.getElem?_eq_getElem hn)]; rfl
  rw [h L.length (Nat.le_refl _), List.take_length]
theorem tab_pl {t : SetTable} {hs : List Int} (T : TabOk t hs) (b : Bool) : TabOk { t with plain := b } hs := ⟨T.ris, T.dm, T.sz, T.mok, T.bd, T.reach⟩
variable {a : Addr} {L : List Ent} {es : Array (Int × Value)} {ep : Nat} {t : SetTable}
theorem relayT {o : Obj} (ho : s.heap.get? a = some o) (hex : o.ExactSet) (hd : o.data = .set es ep t) (en : es.toList = ents P w L) (sz : t.place.size = es.size) (dm : t.dummies = #[]) (fl : es.size ≤ t.mask)
    (nd : (L.map (·.2)).Nodup) (tup : ∀ q ∈ L, TAt P w s.heap q.2 q.1) (ld : w.params.followText "set-order" = true ∨ t.led = true) (few : L.length < 64) {wanted M : Nat}
    (hw : SetTable.sizeAbove wanted - 1 = M) (hM : MaskOk M) (hw2 : SetTable.sizeAbove wanted ≤ 128) (hn : L.length * 5 < M * 3) {Q : Unit → Shared → Prop}
    (hQ : ∀ h' L' es' ep' t', Heap.SameBut a s.heap h' → TSet P w h' a L' es' ep' t' → L'.Perm L → Q () { s with heap := h' }) : wpAny (model P w) A (setRelay a wanted) Q E s := by
  have hl := ents_len en
  obtain ⟨t', order, e, hp, T, em, el, _, ed⟩ := relaid_ok t (hs := es.map (·.1)) (wanted := wanted) hw hM (by rw [Array.size_map, hl]; omega)
  rw [Array.size_map, hl] at hp
  obtain ⟨L2, r1, r2, r3⟩ := picked L es en order.toList fun i hi => List.mem_range.mp (hp.mem_iff.mp hi)
  rw [← r3] at T
  have pm : L2.Perm L := by
    rw [r2]
    have := hp.filterMap (fun i => L[i]?)
    rw [all_picked] at this
    exact this
  have q1 : (order.filterMap (es[·]?)).toList = ents P w L2 := by first | (rw [Array.toList_filterMap]; exact r1) | simpa using r1
  have q2 := ents_len q1
  rw [pm.length_eq] at q2
  have hf : t.fits es.size = true := by
    unfold SetTable.fits SetTable.fill
    rw [dm, Bool.and_eq_true, beq_iff_eq, decide_eq_true_eq]
    refine ⟨sz, ?_⟩
    show t.place.size + 0 ≤ t.mask
    omega
  rw [setRelay_eq]
  refine wpAny_bind (wpAny_setState_of ho hd hf ?_)
  dsimp only
  refine wp_if_neg (by rw [sizeLine_eq]; omega) ?_
  try refine wpAny_bind (wpAny_pure ?_)
  rw [e]
  dsimp only
  refine wpAny_bind (wp_if_neg (by rw [q2, hl]; simp) ?_)
  try refine wpAny_bind (wpAny_pure ?_)
  refine wpAny_pure ?_
  dsimp only
  refine wpAny_storeSet_of ho hd ?_ (by rw [q2, sizeLine_eq]; omega)
  have sb : Heap.SameBut a s.heap (s.heap.update a (Obj.putSet (order.filterMap (es[·]?)) t')) := Heap.SameBut.update ..
  refine hQ _ L2 _ (ep + 1) t' sb ⟨⟨_, store_at ho hd, ⟨hex.1, hex.2.1, hex.2.2⟩, rfl⟩, q1, T, (pm.map (·.2)).nodup_iff.mpr nd, fun q hq => (tup q (pm.mem_iff.mp hq)).beside ho hd sb, ld.imp id fun z => el.trans z, ?_, by rw [pm.length_eq]; exact few⟩ pm
  rw [pm.length_eq, em]; exact hn
/-- the members, added one by one -/
theorem addT (R : TSet P w s.heap a L es ep t) {x : Addr} {k : List Key} (hx : TAt P w s.heap k x) (hu : A.units < cLine) (few : L.length + 1 < 64) {Q : Bool → Shared → Prop}
    (hQ : ∀ b h' L' es' ep' t', Heap.SameBut a s.heap h' → TSet P w h' a L' es' ep' t' → (k ∈ L.map (·.2) ∧ L' = L) ∨ (k ∉ L.map (·.2) ∧ L'.Perm ((x, k) :: L)) → Q b { s with heap := h' }) :
    wpAny (model P w) A (setAddHashed a (.ref x) (TH P w k)) Q E s := by
  obtain ⟨o, ho, hex, hd⟩ := R.ob
  have hl := ents_len R.en
  have room := R.room
  unfold setAddHashed
  refine wpAny_holding ?_
  rw [show (100000 : Nat) = 99999 + 1 from rfl, setAddHashedIn_succ]
  refine wpAny_bind (wpAny_setState_of ho hd R.fits ?_)
  dsimp only
  refine wp_if_neg (by simp [byScan, Value.scannable]) ?_
  try refine wpAny_bind (wpAny_pure ?_)
  refine wpAny_bind (seek0 R hx hu (fun hm => ?_) fun N hm e0 eb => ?_)
  · dsimp only
    exact wpAny_pure (hQ false s.heap L es ep t (Heap.SameBut.refl a s.heap) R (.inl ⟨hm, rfl⟩))
  · dsimp only
    refine wpAny_bind (wpAny_setState_of ho hd R.fits ?_)
    dsimp only
    obtain ⟨p1, p2, p3, p4, p5, p6, p7, p8, p9⟩ := R.tab.put e0 eb
    generalize t.put (way t.mask (TH P w k) N) = pt at p1 p3 p4 p5 p6 p7 p8 p9 ⊢
    obtain ⟨t1, p⟩ := pt
    dsimp only at p1 p3 p4 p5 p6 p7 p8 p9 ⊢
    subst p1
    have i1 : (SetTable.insertAt es (SetTable.below t.place (way t.mask (TH P w k) N)) (TH P w k, Value.ref x)).toList =
        ents P w (L.take (SetTable.below t.place (way t.mask (TH P w k) N)) ++ (x, k) :: L.drop (SetTable.below t.place (way t.mask (TH P w k) N))) := by
      rw [SetTable.toList_insertAt, R.en]
      unfold ents
      rw [List.map_append, List.map_cons, List.map_take, List.map_drop]
    generalize SetTable.below t.place (way t.mask (TH P w k) N) = p at p2 p3 i1 ⊢
    have pm : (L.take p ++ (x, k) :: L.drop p).Perm ((x, k) :: L) := by
      have z : (L.take p ++ (x, k) :: L.drop p).Perm ((x, k) :: (L.take p ++ L.drop p)) := List.perm_middle
      rwa [List.take_append_drop] at z
    have hsh : (L.take p ++ (x, k) :: L.drop p).map (fun q => TH P w q.2) = (L.map fun q => TH P w q.2).take p ++ TH P w k :: (L.map fun q => TH P w q.2).drop p := by
      rw [List.map_append, List.map_cons, List.map_take, List.map_drop]
    rw [← hsh] at p3
    generalize L.take p ++ (x, k) :: L.drop p = L1 at pm p3 i1
    generalize SetTable.insertAt es p (TH P w k, Value.ref x) = es1 at i1 ⊢
    have len1 : L1.length = L.length + 1 := pm.length_eq
    have sz1 : es1.size = L.length + 1 := (ents_len i1).trans len1
    have nd1 : (L1.map (·.2)).Nodup := (pm.map (·.2)).nodup_iff.mpr (by rw [List.map_cons]; exact List.nodup_cons.mpr ⟨hm, R.nd⟩)
    have ld1 : w.params.followText "set-order" = true ∨ t1.led = true := R.led.imp id fun z => p5.trans z
    rw [List.length_map] at p9
    have place1 : t1.place.size = es1.size := by
      have z := p3.sz
      rw [List.length_map, len1] at z
      rw [z, sz1]
    -- the table that is stored: t1, plain or not
    have go : ∀ t2 : SetTable, (t2 = t1 ∨ t2 = { t1 with plain := false }) → wpAny (model P w) A (do
        storeSet a es1 t2
        if (!false && t2.tooFull) = true then setRelay a (SetTable.grown (es.size + 1))
        return true) Q E s := by
      intro t2 h2
      have T2 : TabOk t2 (L1.map fun q => TH P w q.2) := by
        rcases h2 with z | z <;> subst z
        · exact p3
        · exact tab_pl p3 false
      have m2 : t2.mask = t.mask := by rcases h2 with z | z <;> subst z <;> exact p4
      have f2 : t2.tooFull = t1.tooFull := by rcases h2 with z | z <;> subst z <;> rfl
      have l2 : w.params.followText "set-order" = true ∨ t2.led = true := by rcases h2 with z | z <;> subst z <;> exact ld1
      have s2 : t2.place.size = es1.size := by rcases h2 with z | z <;> subst z <;> exact place1
      refine wpAny_bind (wpAny_storeSet_of ho hd ?_ (by rw [sz1, sizeLine_eq]; omega))
      have sb : Heap.SameBut a s.heap (s.heap.update a (Obj.putSet es1 t2)) := Heap.SameBut.update ..
      have ho1 := store_at (es' := es1) (t' := t2) ho hd
      generalize s.heap.update a (Obj.putSet es1 t2) = h1 at sb ho1 ⊢
      have tup1 : ∀ q ∈ L1, TAt P w h1 q.2 q.1 := fun q hq => by
        rcases List.mem_cons.mp (pm.mem_iff.mp hq) with e | hq
        · rw [e]; exact hx.beside ho hd sb
        · exact (R.tup q hq).beside ho hd sb
      have full : t1.tooFull = decide ((L.length + 1) * 5 ≥ t.mask * 3) := by
        unfold SetTable.tooFull
        rw [p9, p4]
      by_cases hf : t2.tooFull = true
      · have hf' := hf
        rw [f2, full, decide_eq_true_eq] at hf'
        have two : (t.mask = 7 ∧ L.length = 4) ∨ (t.mask = 31 ∧ L.length = 18) := by
          rcases R.tab.mok with e | e | e
          · rw [e] at hf' room; exact .inl ⟨e, by omega⟩
          · rw [e] at hf' room; exact .inr ⟨e, by omega⟩
          · rw [e] at hf'; omega
        have on : ∀ M, SetTable.sizeAbove (SetTable.grown (L.length + 1)) - 1 = M → MaskOk M → SetTable.sizeAbove (SetTable.grown (L.length + 1)) ≤ 128 → (L.length + 1) * 5 < M * 3 →
            wpAny (model P w) A (setRelay a (SetTable.grown (L.length + 1))) (fun _ s' => wpAny (model P w) A (pure true) Q E s') E { s with heap := h1 } := fun M h1' h2' h3' h4' => by
          refine relayT (s := { s with heap := h1 }) ho1 ⟨hex.1, hex.2.1, hex.2.2⟩ rfl i1 s2 T2.dm (by rw [sz1, m2]; rcases two with ⟨e, e2⟩ | ⟨e, e2⟩ <;> omega) nd1 tup1 l2 (by rw [len1]; exact few) h1' h2' h3' (by rw [len1]; exact h4') ?_
          intro h2 L2 es2 ep2 t2 sb2 R2 pm2
          exact wpAny_pure (hQ true h2 L2 es2 ep2 t2 (sb.trans sb2) R2 (.inr ⟨hm, pm2.trans pm⟩))
        rw [hl]
        first
          | (refine wpAny_bind ?_; refine wp_if_pos (by simp [hf]) ?_)
          | (refine wp_if_pos (by simp [hf]) ?_; refine wpAny_bind ?_)
        rcases two with ⟨_, e2⟩ | ⟨_, e2⟩
        · exact on 31 (by rw [e2, size_20]) (.inr (.inl rfl)) (by rw [e2, size_20]; decide) (by omega)
        · exact on 127 (by rw [e2, size_76]) (.inr (.inr rfl)) (by rw [e2, size_76]; decide) (by omega)
      · have hf' := hf
        rw [f2, full, decide_eq_true_eq] at hf'
        first
          | refine wp_if_neg (by simp [hf]) ?_
          | (refine wpAny_bind ?_; refine wp_if_neg (by simp [hf]) ?_; refine wpAny_pure ?_)
        exact wpAny_pure (hQ true h1 L1 es1 (ep + 1) t2 sb ⟨⟨_, ho1, ⟨hex.1, hex.2.1, hex.2.2⟩, rfl⟩, i1, T2, nd1, tup1, l2, by rw [len1, m2]; omega, by rw [len1]; exact few⟩ (.inr ⟨hm, pm⟩))
    cases hp : t1.plain with
    | true =>
      first
        | (refine wpAny_bind ?_; refine wp_if_pos rfl ?_; refine byVal hx fun r => ?_)
        | (refine wp_if_pos rfl (wpAny_bind (byVal hx fun r => ?_)))
      cases r with
      | true => exact go _ (.inl rfl)
      | false => exact go _ (.inr rfl)
    | false =>
      first
        | (refine wpAny_bind ?_; refine wp_if_neg Bool.false_ne_true ?_; refine wpAny_pure ?_)
        | (refine wp_if_neg Bool.false_ne_true (wpAny_bind (wpAny_pure ?_)))
      exact go _ (.inl rfl)
/-! ### set(xs) -/
structure Has (ks : List Ent) (i : Nat) (L : List Ent) : Prop where
  sub : ∀ q ∈ L, q ∈ ks.take i
  all : ∀ q ∈ ks.take i, q.2 ∈ L.map (·.2)
  len : L.length ≤ i
theorem Has.step {ks L L' : List Ent} {i : Nat} {y : Ent} (g : Has ks i L) (h : ks[i]? = some y) (c : (y.2 ∈ L.map (·.2) ∧ L' = L) ∨ (y.2 ∉ L.map (·.2) ∧ L'.Perm ((y.1, y.2) :: L))) : Has ks (i + 1) L' := by
  have e : ks.take (i + 1) = ks.take i ++ [y] := by rw [List.take_add_one, h]; rfl
  rcases c with ⟨c, rfl⟩ | ⟨_, pm⟩
  · refine ⟨fun q hq => ?_, fun q hq => ?_, Nat.le_succ_of_le g.len⟩
    · rw [e]; exact List.mem_append_left _ (g.sub q hq)
    · rw [e] at hq
      rcases List.mem_append.mp hq with z | z
      · exact g.all q z
      · rw [List.mem_singleton.mp z]; exact c
  · refine ⟨fun q hq => ?_, fun q hq => ?_, by rw [pm.length_eq]; exact Nat.succ_le_succ g.len⟩
    · rw [e]
      rcases List.mem_cons.mp (pm.mem_iff.mp hq) with z | z
      · rw [z]; exact List.mem_append_right _ (List.mem_singleton.mpr rfl)
      · exact List.mem_append_left _ (g.sub q z)
    · rw [(pm.map (·.2)).mem_iff, List.map_cons]
      rw [e] at hq
      rcases List.mem_append.mp hq with z | z
      · exact List.mem_cons_of_mem _ (g.all q z)
      · rw [List.mem_singleton.mp z]; exact List.mem_cons_self
theorem TSet.stay {h h' : Heap} (R : TSet P w h a L es ep t) (ha : ∀ o, h.get? a = some o → h'.get? a = some o) (ht : ∀ q ∈ L, TAt P w h' q.2 q.1) : TSet P w h' a L es ep t := by
  obtain ⟨o, ho, r⟩ := R.ob
  exact ⟨⟨o, ha o ho, r⟩, R.en, R.tab, R.nd, ht, R.led, R.room, R.few⟩
theorem tset_new {h : Heap} (ho : h.get? a = some (noSet w)) : TSet P w h a [] #[] 0 (.fresh 0 0 (!w.params.followText "set-order")) := by
  refine ⟨⟨_, ho, ⟨rfl, rfl, rfl⟩, rfl⟩, rfl, ⟨List.Pairwise.nil, rfl, rfl, .inl rfl, fun x hx => (by cases hx), fun i h j hi => (by simp at hi)⟩, List.nodup_nil, fun q hq => (by cases hq), ?_, ?_, ?_⟩
  · show _ ∨ (!w.params.followText "set-order") = true
    cases w.params.followText "set-order" <;> simp
  · show 0 * 5 < 7 * 3
    decide
  · show 0 < 64
    decide
theorem fillT {I : Addr} {fp wr : List Addr} {G : Array GenState → Array GenState → Prop} {n : Nat} {Pv : Nat → Value → Prop} {St : Nat → Shared → Prop} {R : Result → Shared → Prop}
    (W : WalksS P w A.in1 I fp wr G n Pv St) (T : Addr) (hT : T ∉ fp) (ks : List Ent) (hn : n = ks.length) (few : ks.length < 64) (hval : ∀ i v, Pv i v → ∃ q, ks[i]? = some q ∧ v = .ref q.1)
    (h0 : Heap) (hk : ∀ q ∈ ks, TAt P w h0 q.2 q.1) (hT0 : h0.get? T = none) (hw0 : ∀ b ∈ wr, h0.get? b = none) (hu : A.in1.units < cLine) :
    ∀ (m i : Nat) (z : Shared), n - i = m → i ≤ n → St i z → (∀ b o, h0.get? b = some o → z.heap.get? b = some o) → (∃ L es ep t, TSet P w z.heap T L es ep t ∧ Has ks i L) →
      (∀ z', Moved (T :: wr) G z z' → (∃ L es ep t, TSet P w z'.heap T L es ep t ∧ Has ks n L) → R (.ok (.ret .none)) z') →
      codeAny (model P w) A (.builtin "set.update.loop" ⟨[.ref T, .ref I], []⟩) R z := by
  have hTw : T ∉ wr := fun h => hT (W.sub _ h)
  have inc : ∀ b ∈ wr, b ∈ T :: wr := fun b hb => List.mem_cons_of_mem _ hb
  have kept : ∀ {z z' : Shared}, Moved wr G z z' → (∀ b o, h0.get? b = some o → z.heap.get? b = some o) → ∀ b o, h0.get? b = some o → z'.heap.get? b = some o := fun mv kp b o e =>
    mv.heap b o (fun hb => by rw [hw0 b hb] at e; cases e) (kp b o e)
  have inks : ∀ {L : List Ent} {i : Nat}, Has ks i L → ∀ q ∈ L, q ∈ ks := fun g q hq => List.mem_of_mem_take (g.sub q hq)
  intro m
  induction m with
  | zero =>
    intro i z hm hi hst kp ⟨L, es, ep, t, hS, g⟩ hR
    obtain rfl : i = n := by omega
    refine codeAny_builtin F.entry_set_update_loop ?_
    rw [Around.under_plainId F.plain_set_update_loop _]
    show wpAny _ A.in1 (pyNext (.ref I) >>= _) _ _ z
    refine wpAny_bind (W.done z _ _ hst fun z' mv => ?_)
    exact wpAny_pure (hR z' (mv.mono inc) ⟨L, es, ep, t, hS.stay (fun o e => mv.heap T o hTw e) fun q hq => (hk q (inks g q hq)).stay (kept mv kp), g⟩)
  | succ m ih =>
    intro i z hm hi hst kp ⟨L, es, ep, t, hS, g⟩ hR
    refine codeAny_builtin F.entry_set_update_loop ?_
    rw [Around.under_plainId F.plain_set_update_loop _]
    show wpAny _ A.in1 (pyNext (.ref I) >>= _) _ _ z
    refine wpAny_bind (W.item i z _ _ (by omega) hst fun v z' hP st' mv => ?_)
    obtain ⟨y, hy, rfl⟩ := hval i v hP
    have kp1 := kept mv kp
    have S1 : TSet P w z'.heap T L es ep t := hS.stay (fun o e => mv.heap T o hTw e) fun q hq => (hk q (inks g q hq)).stay kp1
    have hx : TAt P w z'.heap y.2 y.1 := (hk y (List.mem_of_getElem? hy)).stay kp1
    show wpAny _ A.in1 (holding [Value.ref y.1] (setAdd T (.ref y.1)) >>= _) _ _ z'
    refine wpAny_bind (wpAny_holding ?_)
    unfold setAdd
    refine wpAny_holding (wpAny_bind (wpAny_pyHash_tuple hu hx ?_))
    refine addT (s := { z' with toks := z'.toks + (y.2.length + 1) }) S1 hx hu (by have := g.len; omega) fun b h' L' es' ep' t' sb S2 c => ?_
    have kp2 : ∀ b o, h0.get? b = some o → h'.get? b = some o := fun b o e => (sb.2 b fun q => by rw [q, hT0] at e; cases e).trans (kp1 b o e)
    refine wpAny_pure ⟨plainId_quiet F.plain_set_update_loop _, ih (i + 1) _ (by omega) (by omega) (W.frame _ z' _ _ st' (Nat.le_add_right _ _) fun b hb o e => ?_) kp2 ⟨L', es', ep', t', S2, g.step hy c⟩ fun z2 mv2 S3 => ?_⟩
    · rw [sb.2 b fun h : b = T => hT (h ▸ hb)]; exact e
    · refine hR z2 (Moved.trans W.gtrans ((mv.mono inc).then_heap (Nat.le_add_right _ _) fun b o hb e => ?_) mv2) S3
      rw [sb.2 b fun h : b = T => hb (h ▸ List.mem_cons_self)]; exact e
theorem call_setT {T I : String} (ty : SeqTy P w T I) {l : Addr} {o : Obj} {xs : Array Value} {n : Nat} (ks : List Ent) {Q : Value → Shared → Prop} (hh : A.handled = none) (hu : A.units + 3 < cLine) (ho : s.heap.get? l = some o) (hc : o.cls = .type T) (hd : o.data = .seq xs n)
    (hv : xs.toList = ks.map fun q => Value.ref q.1) (hk : ∀ q ∈ ks, TAt P w s.heap q.2 q.1) (few : ks.length < 64)
    (h : ∀ (h' : Heap) (tk : Nat), (∃ L es ep t, TSet P w h' s.heap.objs.size L es ep t ∧ Has ks ks.length L) → (∀ b u, s.heap.get? b = some u → h'.get? b = some u) → Q (.ref s.heap.objs.size) { s with heap := h', toks := tk }) :
    wpAny (model P w) A (call (.type "set") [.ref l]) Q E s := by
  have hsz : xs.size = ks.length := by
    rw [← Array.length_toList, hv, List.length_map]
  refine call_set_gen ty (fun h' => ∃ L es ep t, TSet P w h' s.heap.objs.size L es ep t ∧ Has ks ks.length L) hh ho hc hd (fun {R i St z} W hnf hi ho0 kp st0 fin => ?_) h
  have free : s.heap.get? s.heap.objs.size = none := by
    cases q : s.heap.get? s.heap.objs.size with
    | none => rfl
    | some u => exact absurd (Heap.lt_size q) (Nat.lt_irrefl _)
  refine fillT W.toS s.heap.objs.size hnf ks hsz few (fun j v hj => ?_) s.heap hk free (fun b hb => by rw [List.mem_singleton.mp hb]; exact hi) hu (xs.size - 0) 0 _ (by omega) (Nat.zero_le _) st0 kp
    ⟨[], #[], 0, _, tset_new ho0, ⟨fun q h => (by cases h), fun q h => (by simp at h), Nat.le_refl _⟩⟩ fun z' mv S1 => fin z' mv (by rw [hsz] at S1; exact S1)
  have q : xs.toList[j]? = some v := by rw [Array.getElem?_toList]; exact hj
  rw [hv, List.getElem?_map] at q
  cases e : ks[j]? with
  | none => rw [e] at q; cases q
  | some y => rw [e] at q; exact ⟨y, rfl, (Option.some.inj q).symm⟩
end
end DL
set_option maxRecDepth 100000
set_option maxHeartbeats 4000000
/-! HX6: sorted(set(xs)), xs a list or tuple of tuples. -/
namespace DL
open PySem PySem.Spec PyProof.Rows L2 Srt
theorem items_vals {P : Program} {w : World} {k : List Key} {vs : List Value} (h : ItemsAre (mixKind P w) k vs) : Vals (k.map kV) vs := by
  induction h with
  | nil => exact .nil
  | cons h1 _ ih => exact .cons (relV_key h1) ih
theorem vals_items {P : Program} {w : World} : ∀ {k : List Key} {vs : List Value}, Vals (k.map kV) vs → ItemsAre (mixKind P w) k vs
  | [], _, .nil => .nil
  | _ :: _, _, .cons r t => .cons (kV_is r) (vals_items t)
theorem TAt.kt {P : Program} {w : World} {h : Heap} {k : List Key} {b : Addr} (x : TAt P w h k b) : KtAt h (.ref b) k := by
  obtain ⟨o, its, n, ho, hc, hd, hi⟩ := x
  exact ⟨b, o, its, n, rfl, ho, hc, hd, items_vals hi⟩
def entIn (h : Heap) : Value → Ent
  | .ref a => (a, keysIn h (.ref a))
  | _ => (0, [])
theorem lexK_uniq : ∀ {l m : List (List Key)}, l.Pairwise (fun x y => lexK x y = true) → m.Pairwise (fun x y => lexK x y = true) → (∀ x, x ∈ l ↔ x ∈ m) → l = m
  | [], [], _, _, _ => rfl
  | [], y :: m, _, _, h => absurd ((h y).mpr List.mem_cons_self) (by simp)
  | x :: l, [], _, _, h => absurd ((h x).mp List.mem_cons_self) (by simp)
  | x :: l, y :: m, h1, h2, h => by
    obtain ⟨a1, a2⟩ := List.pairwise_cons.mp h1
    obtain ⟨b1, b2⟩ := List.pairwise_cons.mp h2
    have e : x = y := by
      rcases List.mem_cons.mp ((h x).mp List.mem_cons_self) with q | q
      · exact q
      · rcases List.mem_cons.mp ((h y).mpr List.mem_cons_self) with z | z
        · exact z.symm
        · have := lexK_asym (b1 x q)
          rw [a1 y z] at this; cases this
    subst e
    have nl : x ∉ l := fun z => by have := a1 x z; rw [lexK_irr] at this; cases this
    have nm : x ∉ m := fun z => by have := b1 x z; rw [lexK_irr] at this; cases this
    rw [lexK_uniq a2 b2 fun z => ?_]
    have hz := h z
    rw [List.mem_cons, List.mem_cons] at hz
    constructor
    · intro q
      rcases hz.mp (.inr q) with c | c
      · exact absurd (c ▸ q) nl
      · exact c
    · intro q
      rcases hz.mpr (.inr q) with c | c
      · exact absurd (c ▸ q) nm
      · exact c
section
variable {P : Program} {w : World} {A : Around} {E : Value → Shared → Prop} {s : Shared}
theorem sorted_setT {a : Addr} {L : List Ent} {es : Array (Int × Value)} {ep : Nat} {t : SetTable} {b : Bool} {Q : Value → Shared → Prop} (R : TSet P w s.heap a L es ep t) (hh : A.handled = none)
    (hd1 : ∀ q ∈ L, ∃ k r, q.2 = k :: r ∧ k.isRight = b) (hd2 : ∀ q ∈ L, ∀ r ∈ L, homo q.2 r.2)
    (hQ : ∀ s' p (out : List Value) (c : Nat) (ys : List Ent), (∀ b o, s.heap.get? b = some o → s'.heap.get? b = some o) → s'.gens = s.gens → s'.os = s.os → s.heap.objs.size ≤ p →
      s'.heap.get? p = some (seqObj "list" out.toArray c) → out = ys.map (fun q => Value.ref q.1) → (∀ q ∈ ys, q ∈ L) → (∀ q ∈ L, q.2 ∈ ys.map (·.2)) → ys.length = L.length → ys.Pairwise (fun q r => lexK q.2 r.2 = true) → Q (.ref p) s') :
    wpAny (model P w) A (call (.builtin "sorted") [.ref a]) Q E s := by
  obtain ⟨o, ho, hex, hd⟩ := R.ob
  have sz := ents_len R.en
  have few := R.few
  refine Calls.call_function_entry kind_sorted plain_sorted entry_sorted (args_sorted1 _) ?_
  unfold Builtin.«sorted»
  refine wpAny_bind (m := checkCount "sorted" 1 1 _) (wpAny_pure ?_)
  refine wpAny_bind (collect_set (A := A.in1) hh ⟨o, ho, hex.1, hd⟩ R.fits (by unfold scanBound; omega) R.tab.ris R.led fun s1 vs k1 hz g1 o1 pm => ?_)
  have e1 : es.toList.map (·.2) = L.map fun q => Value.ref q.1 := by
    rw [R.en]
    unfold ents
    rw [List.map_map]; rfl
  rw [e1] at pm
  have back : ∀ v ∈ vs, ∃ q ∈ L, v = Value.ref q.1 := fun v hv => by
    obtain ⟨q, hq, e⟩ := List.mem_map.mp (pm.mem_iff.mp hv)
    exact ⟨q, hq, e.symm⟩
  have kts : ∀ q ∈ L, KtAt s.heap (.ref q.1) q.2 := fun q hq => (R.tup q hq).kt
  have ent : ∀ q ∈ L, entIn s.heap (.ref q.1) = q := fun q hq => by
    show (q.1, keysIn s.heap (.ref q.1)) = q
    rw [(kts q hq).keys]
  have kin : ∀ q ∈ L, keysIn s.heap (.ref q.1) = q.2 := fun q hq => (kts q hq).keys
  have hvl : vs.length ≤ sizeLine := by
    rw [pm.length_eq, List.length_map, sizeLine_eq]; omega
  refine wpAny_bind (wpAny_newList ?_ hvl)
  have hoL : (s1.heap.push (seqObj "list" vs.toArray 0)).get? s1.heap.objs.size = some (seqObj "list" vs.toArray 0) := Heap.get?_push_size _ rfl
  have kt1 : ∀ v ∈ vs, KtAt (s1.heap.push (seqObj "list" vs.toArray 0)) v (keysIn s.heap v) := fun v hv => by
    obtain ⟨q, hq, rfl⟩ := back v hv
    rw [kin q hq]
    exact (kts q hq).stay fun b u e _ => Heap.get?_push_of_some _ (k1 b u e)
  refine wpAny_bind (wpAny_holding (wpAny_call_entry slot_list_sort ⟨_, hoL, rfl⟩ entry_list_sort (SrtO.list_sort_ord (swoK (keysIn s.heap)) hoL hvl (fun h2 => sortableK (b := b) (by omega) kt1 (fun v hv u hu => ?_) (fun ks hks => ?_) fun o e c => ?_) fun out a1 a2 => ⟨_, rfl, ?_⟩) (args_list_sort _)))
  · obtain ⟨q, hq, rfl⟩ := back v hv
    obtain ⟨r, hr, rfl⟩ := back u hu
    rw [kin q hq, kin r hr]
    exact hd2 q hq r hr
  · obtain ⟨v, hv, rfl⟩ := List.mem_map.mp hks
    obtain ⟨q, hq, rfl⟩ := back v hv
    rw [kin q hq]; exact hd1 q hq
  · have e' : some o = some (seqObj "list" vs.toArray 0) := e.symm.trans hoL
    cases e'
    exact absurd (Value.type.inj c) (by decide)
  · obtain ⟨c, hc⟩ := sortedHeap_at (vs := vs) (out := out.toArray) hoL
    have po := a2.perm
    have bo : ∀ v ∈ out, ∃ q ∈ L, v = Value.ref q.1 := fun v hv => back v (po.mem_iff.mp hv)
    refine wpAny_pure ⟨_, rfl, hQ { s1 with heap := sortedHeap (s1.heap.push (seqObj "list" vs.toArray 0)) s1.heap.objs.size vs out.toArray } s1.heap.objs.size out c (out.map (entIn s.heap)) (fun b u e => ?_) g1 o1 hz hc ?_ (fun q hq => ?_) (fun q hq => ?_) ?_ ?_⟩
    · have q := k1 b u e
      have lt := Heap.lt_size q
      show (sortedHeap (s1.heap.push (seqObj "list" vs.toArray 0)) s1.heap.objs.size vs out.toArray).get? b = some u
      rw [sortedHeap_old (Nat.ne_of_lt lt) (by rw [size_push']; exact Nat.lt_succ_of_lt lt)]
      exact Heap.get?_push_of_some _ q
    · rw [List.map_map]
      refine (List.map_id _).symm.trans (List.map_congr_left fun v hv => ?_)
      obtain ⟨q, hq, rfl⟩ := bo v hv
      show Value.ref q.1 = Value.ref (entIn s.heap (.ref q.1)).1
      rw [ent q hq]
    · obtain ⟨v, hv, rfl⟩ := List.mem_map.mp hq
      obtain ⟨r, hr, rfl⟩ := bo v hv
      rw [ent r hr]; exact hr
    · have hm : Value.ref q.1 ∈ out := po.mem_iff.mpr (pm.mem_iff.mpr (List.mem_map.mpr ⟨q, hq, rfl⟩))
      refine List.mem_map.mpr ⟨q, List.mem_map.mpr ⟨_, hm, ent q hq⟩, rfl⟩
    · rw [List.length_map, po.length_eq, pm.length_eq, List.length_map]
    · have nd : (out.map (entIn s.heap)).Pairwise (fun q r => q.2 ≠ r.2) := by
        have p2 : ((out.map (entIn s.heap)).map (·.2)).Perm (L.map (·.2)) := by
          have q := ((po.trans pm).map (entIn s.heap)).map (·.2)
          have e2 : ((L.map fun q => Value.ref q.1).map (entIn s.heap)) = L := by
            rw [List.map_map]
            refine (List.map_congr_left fun q hq => ?_).trans (List.map_id _)
            exact ent q hq
          rw [e2] at q
          exact q
        exact List.pairwise_map.mp (p2.nodup_iff.mpr R.nd)
      have pw : (out.map (entIn s.heap)).Pairwise (fun x y => lexK y.2 x.2 = false) := List.pairwise_map.mpr (List.Pairwise.imp_of_mem (R := fun v u => lexK (keysIn s.heap u) (keysIn s.heap v) = false) (fun {x y} hx hy h => by
        obtain ⟨q, hq, rfl⟩ := bo x hx
        obtain ⟨r, hr, rfl⟩ := bo y hy
        exact h) a1)
      refine (pw.and nd).imp fun {x y} h => ?_
      · rcases lexK_tri x.2 y.2 with c | c | c
        · exact c
        · exact absurd c h.2
        · rw [h.1] at c; cases c
end
section
variable {X : Cx}
def tSortSetT (K : PySem.W.Frag) (ta : TE) : TE := fun σ H Q => ta σ H fun x H1 => ∃ (l : Addr) (ks : List Ent) (b : Bool), x = .ref l ∧ (SqL K H1 l (ks.map fun q => V.ref q.1) ∨ SqT K H1 l (ks.map fun q => V.ref q.1)) ∧
  (∀ q ∈ ks, SqT K H1 q.1 (q.2.map kV)) ∧ ks.length < 64 ∧ (∀ q ∈ ks, ∃ k r, q.2 = k :: r ∧ k.isRight = b) ∧ (∀ q ∈ ks, ∀ r ∈ ks, homo q.2 r.2) ∧
  ∀ ys : List Ent, (∀ q ∈ ys, q ∈ ks) → (∀ q ∈ ks, q.2 ∈ ys.map (·.2)) → ys.Pairwise (fun q r => lexK q.2 r.2 = true) → ∀ p, H1 p = none → Q (.ref p) (upd H1 p (.lst (ys.map fun q => V.ref q.1)))
theorem refs_vals : ∀ {ks : List Ent} {us : List Value}, Vals (ks.map fun q => V.ref q.1) us → us = ks.map fun q => Value.ref q.1
  | [], _, .nil => rfl
  | q :: ks, _, .cons r t => by
    obtain rfl := (show _ = Value.ref q.1 from r)
    rw [refs_vals t]; rfl
theorem vals_refs : ∀ ks : List Ent, Vals (ks.map fun q => V.ref q.1) (ks.map fun q => Value.ref q.1)
  | [] => .nil
  | _ :: ks => .cons rfl (vals_refs ks)
theorem pe_sortSetT {a : Expr} {ta : TE} {p p2 q pos : Pos} (hc : X.calm = true) (hu : X.A.units + 64 < cLine) (hg : Gl X "sorted") (hm : X.mg "sorted" = none) (hg2 : Gl X "set") (hm2 : X.mg "set" = none) (ha : PE X a ta)
    (na : starEach [a] X.env = (false, eval a X.env) :: starEach [] X.env := by rfl) : PE X (.Call (.Name "sorted" p) [.Call (.Name "set" p2) [a] [] q] [] pos) (tSortSetT X.K ta) := by
  refine ⟨fun pins s σ H Q I h => ?_⟩
  refine Call_ (ld_blt I hg hm boot_sorted ?_)
  refine PyProof.Rows.callWith_builtin1 (PyProof.Rows.args_cons ?_ rfl) rfl rfl
  refine Call_ (ld_blt I hg2 hm2 boot_set ?_)
  refine PyProof.Rows.callWith_type1 (PyProof.Rows.args_cons (thn (ha.run pins s σ H _ I h) fun v s1 ⟨x, H1, I1, r1, q1⟩ => PyProof.Rows.args_nil ?_) na) na rfl
  obtain ⟨l, ks, b, rfl, hq, hkt, few, hd1, hd2, q1⟩ := q1
  cases r1
  have tat : ∀ q ∈ ks, TAt X.prog X.w s1.heap q.2 q.1 := fun q hq => by
    obtain ⟨its, r, ⟨o, g1, g2, n, g3⟩, _⟩ := I1.tuple (hkt q hq)
    exact ⟨o, its.toArray, n, g1, g2, g3, vals_items r⟩
  have fin : ∀ (h' : Heap) (tk : Nat), (∃ L es ep t, TSet X.prog X.w h' s1.heap.objs.size L es ep t ∧ Has ks ks.length L) → (∀ b o, s1.heap.get? b = some o → h'.get? b = some o) →
      wpAny (model X.prog X.w) X.A (spliced (backTo pos (starEach [] X.env))) (fun vs s₂ => wpAny (model X.prog X.w) X.A (call (.builtin "sorted") (Value.ref s1.heap.objs.size :: vs)) (EP X pins σ Q) X.xe s₂) X.xe { s1 with heap := h', toks := tk } := fun h' tk ⟨L, es, ep, t, hS, g⟩ kp => by
    refine PyProof.Rows.args_nil ?_
    have inks : ∀ q ∈ L, q ∈ ks := fun q hq => List.mem_of_mem_take (g.sub q hq)
    refine sorted_setT (s := { s1 with heap := h', toks := tk }) (b := b) hS (I1.ok.hd hc) (fun q hq => hd1 q (inks q hq)) (fun q hq r hr => hd2 q (inks q hq) r (inks r hr)) fun s' p out c ys k g' o hp hg' hv sub all len pw => ?_
    have lt0 : s1.heap.objs.size ≤ p := Nat.le_trans (Nat.le_of_lt (by obtain ⟨o, ho, _⟩ := hS.ob; exact Heap.lt_size ho)) hp
    have kk : ∀ b o, s1.heap.get? b = some o → s'.heap.get? b = some o := fun b o e => k b o (kp b o e)
    have hn : H1 p = none := I1.hok.fresh lt0
    have nL : ys.length ≤ 64 := by
      rw [len]; exact Nat.le_of_lt hS.few
    have hlen : (ys.map fun q => V.ref q.1).length ≤ sizeLine := by
      rw [List.length_map, sizeLine_eq]; omega
    have rv : Vals (ys.map fun q => V.ref q.1) out := by rw [hv]; exact vals_refs ys
    have J : Inv X pins σ (upd H1 p (.lst (ys.map fun q => V.ref q.1))) { s1 with heap := s'.heap, gens := s'.gens, drawn := s'.drawn, toks := s'.toks } :=
      I1.call (ch := []) (Un.laid kk lt0 hn) (I1.hok.laid kk lt0 ⟨hlen, out, c, rv, hg'⟩) (by rw [g']; exact I1.bare) (fun _ z => nomatch z)
    have e : s' = { s1 with heap := s'.heap, gens := s'.gens, drawn := s'.drawn, toks := s'.toks } := by
      cases s'
      cases s1
      cases o
      rfl
    rw [e]
    refine ⟨.ref p, _, J, rfl, q1 ys (fun q hq => inks q (sub q hq)) (fun q hq => ?_) pw p hn⟩
    obtain ⟨r, hr, er⟩ := List.mem_map.mp (g.all q (by rw [List.take_length]; exact hq))
    rw [← er]
    exact all r hr
  rcases hq with hq | hq
  · obtain ⟨its, r, pl, hz⟩ := I1.list hq
    obtain ⟨o, n, g1, g2, _, g3⟩ := pl
    exact call_setT (seqLst _ _) ks (I1.ok.hd hc) (by omega) g1 g2 g3 (refs_vals r) tat few fin
  · obtain ⟨its, r, ⟨o, g1, g2, n, g3⟩, hz⟩ := I1.tuple hq
    exact call_setT (seqTup _ _) ks (I1.ok.hd hc) (by omega) g1 g2 g3 (refs_vals r) tat few fin
end
end DL
set_option maxRecDepth 100000
set_option maxHeartbeats 4000000
/-! HX7: sorted(set(xs)) of keys or of tuples, by one rule. -/
namespace DL
open PySem PySem.Spec PyProof.Rows L2 Srt
def SSet (K : PySem.W.Frag) (x : V) (H : Hp) (Q : VK) : Prop :=
  (∃ (l : Addr) (ks : List Key) (b : Bool), x = .ref l ∧ (SqL K H l (ks.map kV) ∨ SqT K H l (ks.map kV)) ∧ ks.length + 1 < scanBound ∧ (∀ k ∈ ks, k.isRight = b) ∧ ∀ p, H p = none → Q (.ref p) (upd H p (.lst ((ascK ks).map kV)))) ∨
  (∃ (l : Addr) (ks : List Ent) (b : Bool), x = .ref l ∧ (SqL K H l (ks.map fun q => V.ref q.1) ∨ SqT K H l (ks.map fun q => V.ref q.1)) ∧
    (∀ q ∈ ks, SqT K H q.1 (q.2.map kV)) ∧ ks.length < 64 ∧ (∀ q ∈ ks, ∃ k r, q.2 = k :: r ∧ k.isRight = b) ∧ (∀ q ∈ ks, ∀ r ∈ ks, homo q.2 r.2) ∧
    ∀ ys : List Ent, (∀ q ∈ ys, q ∈ ks) → (∀ q ∈ ks, q.2 ∈ ys.map (·.2)) → ys.Pairwise (fun q r => lexK q.2 r.2 = true) → ∀ p, H p = none → Q (.ref p) (upd H p (.lst (ys.map fun q => V.ref q.1))))
def tSSet (K : PySem.W.Frag) (ta : TE) : TE := fun σ H Q => ta σ H fun x H1 => SSet K x H1 Q
section
variable {X : Cx}
theorem pe_sset {a : Expr} {ta : TE} {p p2 q pos : Pos} (hc : X.calm = true) (hu : X.A.units + 64 < cLine) (hg : Gl X "sorted") (hm : X.mg "sorted" = none) (hg2 : Gl X "set") (hm2 : X.mg "set" = none) (ha : PE X a ta)
    (na : starEach [a] X.env = (false, eval a X.env) :: starEach [] X.env := by rfl) : PE X (.Call (.Name "sorted" p) [.Call (.Name "set" p2) [a] [] q] [] pos) (tSSet X.K ta) := by
  refine ⟨fun pins s σ H Q I h => ?_⟩
  refine Call_ (ld_blt I hg hm boot_sorted ?_)
  refine PyProof.Rows.callWith_builtin1 (PyProof.Rows.args_cons ?_ rfl) rfl rfl
  refine Call_ (ld_blt I hg2 hm2 boot_set ?_)
  refine PyProof.Rows.callWith_type1 (PyProof.Rows.args_cons (thn (ha.run pins s σ H _ I h) fun v s1 ⟨x, H1, I1, r1, q1⟩ => PyProof.Rows.args_nil ?_) na) na rfl
  rcases q1 with q1 | q1
  · obtain ⟨l, ks, b, rfl, hq, hb, hk, q1⟩ := q1
    cases r1
    have fin : ∀ (h' : Heap) (tk : Nat), SetKs X.prog X.w h' s1.heap.objs.size (setK ks) → (∀ b o, s1.heap.get? b = some o → h'.get? b = some o) →
        wpAny (model X.prog X.w) X.A (spliced (backTo pos (starEach [] X.env))) (fun vs s₂ => wpAny (model X.prog X.w) X.A (call (.builtin "sorted") (Value.ref s1.heap.objs.size :: vs)) (EP X pins σ Q) X.xe s₂) X.xe { s1 with heap := h', toks := tk } := fun h' tk hS kp => by
      refine PyProof.Rows.args_nil ?_
      refine sorted_setKs (s := { s1 with heap := h', toks := tk }) (b := b) hS (fun k hk' => hk k (setK_mem.mp hk')) (I1.ok.hd hc) fun s' p out c ys k g o hp hg' hv pm ps => ?_
      have ey := ascK_eq pm ps
      subst ey
      have lt0 : s1.heap.objs.size ≤ p := Nat.le_trans (Nat.le_of_lt (by obtain ⟨o, _, _, _, ho, _⟩ := hS; exact Heap.lt_size ho)) hp
      have kk : ∀ b o, s1.heap.get? b = some o → s'.heap.get? b = some o := fun b o e => k b o (kp b o e)
      have hn : H1 p = none := I1.hok.fresh lt0
      have hlen : ((ascK ks).map kV).length ≤ sizeLine := by
        rw [List.length_map, (ascK_perm ks).length_eq]
        exact Nat.le_trans (setK_len ks) (fits_of_scanBound (by omega))
      have J : Inv X pins σ (upd H1 p (.lst ((ascK ks).map kV))) { s1 with heap := s'.heap, gens := s'.gens, drawn := s'.drawn, toks := s'.toks } :=
        I1.call (ch := []) (Un.laid kk lt0 hn) (I1.hok.laid kk lt0 ⟨hlen, out, c, hv, hg'⟩) (by rw [g]; exact I1.bare) (fun _ z => nomatch z)
      have e : s' = { s1 with heap := s'.heap, gens := s'.gens, drawn := s'.drawn, toks := s'.toks } := by
        cases s'
        cases s1
        cases o
        rfl
      rw [e]
      exact ⟨.ref p, _, J, rfl, q1 p hn⟩
    rcases hq with hq | hq
    · obtain ⟨its, r, pl, hz⟩ := I1.list hq
      obtain ⟨o, n, g1, g2, _, g3⟩ := pl
      exact call_setKs (seqLst _ _) ks (I1.ok.hd hc) g1 g2 g3 r hb fin
    · obtain ⟨its, r, ⟨o, g1, g2, n, g3⟩, hz⟩ := I1.tuple hq
      exact call_setKs (seqTup _ _) ks (I1.ok.hd hc) g1 g2 g3 r hb fin
  · obtain ⟨l, ks, b, rfl, hq, hkt, few, hd1, hd2, q1⟩ := q1
    cases r1
    have tat : ∀ q ∈ ks, TAt X.prog X.w s1.heap q.2 q.1 := fun q hq => by
      obtain ⟨its, r, ⟨o, g1, g2, n, g3⟩, _⟩ := I1.tuple (hkt q hq)
      exact ⟨o, its.toArray, n, g1, g2, g3, vals_items r⟩
    have fin : ∀ (h' : Heap) (tk : Nat), (∃ L es ep t, TSet X.prog X.w h' s1.heap.objs.size L es ep t ∧ Has ks ks.length L) → (∀ b o, s1.heap.get? b = some o → h'.get? b = some o) →
        wpAny (model X.prog X.w) X.A (spliced (backTo pos (starEach [] X.env))) (fun vs s₂ => wpAny (model X.prog X.w) X.A (call (.builtin "sorted") (Value.ref s1.heap.objs.size :: vs)) (EP X pins σ Q) X.xe s₂) X.xe { s1 with heap := h', toks := tk } := fun h' tk ⟨L, es, ep, t, hS, g⟩ kp => by
      refine PyProof.Rows.args_nil ?_
      have inks : ∀ q ∈ L, q ∈ ks := fun q hq => List.mem_of_mem_take (g.sub q hq)
      refine sorted_setT (s := { s1 with heap := h', toks := tk }) (b := b) hS (I1.ok.hd hc) (fun q hq => hd1 q (inks q hq)) (fun q hq r hr => hd2 q (inks q hq) r (inks r hr)) fun s' p out c ys k g' o hp hg' hv sub all len pw => ?_
      have lt0 : s1.heap.objs.size ≤ p := Nat.le_trans (Nat.le_of_lt (by obtain ⟨o, ho, _⟩ := hS.ob; exact Heap.lt_size ho)) hp
      have kk : ∀ b o, s1.heap.get? b = some o → s'.heap.get? b = some o := fun b o e => k b o (kp b o e)
      have hn : H1 p = none := I1.hok.fresh lt0
      have hlen : (ys.map fun q => V.ref q.1).length ≤ sizeLine := by
        rw [List.length_map, len, sizeLine_eq]
        have := hS.few
        omega
      have rv : Vals (ys.map fun q => V.ref q.1) out := by rw [hv]; exact vals_refs ys
      have J : Inv X pins σ (upd H1 p (.lst (ys.map fun q => V.ref q.1))) { s1 with heap := s'.heap, gens := s'.gens, drawn := s'.drawn, toks := s'.toks } :=
        I1.call (ch := []) (Un.laid kk lt0 hn) (I1.hok.laid kk lt0 ⟨hlen, out, c, rv, hg'⟩) (by rw [g']; exact I1.bare) (fun _ z => nomatch z)
      have e : s' = { s1 with heap := s'.heap, gens := s'.gens, drawn := s'.drawn, toks := s'.toks } := by
        cases s'
        cases s1
        cases o
        rfl
      rw [e]
      refine ⟨.ref p, _, J, rfl, q1 ys (fun q hq => inks q (sub q hq)) (fun q hq => ?_) pw p hn⟩
      obtain ⟨r, hr, er⟩ := List.mem_map.mp (g.all q (by rw [List.take_length]; exact hq))
      rw [← er]
      exact all r hr
    rcases hq with hq | hq
    · obtain ⟨its, r, pl, hz⟩ := I1.list hq
      obtain ⟨o, n, g1, g2, _, g3⟩ := pl
      exact call_setT (seqLst _ _) ks (I1.ok.hd hc) (by omega) g1 g2 g3 (refs_vals r) tat few fin
    · obtain ⟨its, r, ⟨o, g1, g2, n, g3⟩, hz⟩ := I1.tuple hq
      exact call_setT (seqTup _ _) ks (I1.ok.hd hc) (by omega) g1 g2 g3 (refs_vals r) tat few fin
end
/-- sorted(set(kss)) -/
def ascT (kss : List (List Key)) : List (List Key) := (kss.foldr (fun k S => if S.any (fun j => decide (j = k)) then S else k :: S) []).mergeSort fun a b => !lexK b a
theorem dedT : ∀ (kss : List (List Key)), (kss.foldr (fun k S => if S.any (fun j => decide (j = k)) then S else k :: S) []).Nodup ∧ ∀ j, j ∈ kss.foldr (fun k S => if S.any (fun j => decide (j = k)) then S else k :: S) [] ↔ j ∈ kss
  | [] => ⟨List.nodup_nil, fun j => Iff.rfl⟩
  | k :: kss => by
    obtain ⟨a, b⟩ := dedT kss
    rw [List.foldr_cons]
    generalize kss.foldr (fun k S => if S.any (fun j => decide (j = k)) then S else k :: S) [] = S at a b ⊢
    by_cases c : S.any (fun j => decide (j = k)) = true
    · rw [if_pos c]
      obtain ⟨j, hj, e⟩ := List.any_eq_true.mp c
      have e' := of_decide_eq_true e
      refine ⟨a, fun i => ?_⟩
      rw [b i, List.mem_cons]
      exact ⟨.inr, fun z => z.elim (fun y => by rw [y, ← e']; exact (b j).mp hj) id⟩
    · rw [if_neg c]
      refine ⟨List.nodup_cons.mpr ⟨fun z => c (List.any_eq_true.mpr ⟨k, z, decide_eq_true rfl⟩), a⟩, fun i => ?_⟩
      rw [List.mem_cons, List.mem_cons, b i]
theorem ascT_mem {kss : List (List Key)} {k : List Key} : k ∈ ascT kss ↔ k ∈ kss := by
  unfold ascT
  rw [(List.mergeSort_perm _ _).mem_iff, (dedT kss).2]
theorem ascT_lt (kss : List (List Key)) : (ascT kss).Pairwise fun x y => lexK x y = true := by
  have nd : (ascT kss).Nodup := (List.mergeSort_perm _ _).nodup_iff.mpr (dedT kss).1
  have h : (ascT kss).Pairwise fun a b => (!lexK b a) = true := by
    refine List.pairwise_mergeSort (fun a b c h1 h2 => ?_) (fun a b => ?_) _
    · cases q : lexK c a with
      | false => rfl
      | true =>
        rcases lexK_tri a b with z | z | z
        · rw [lexK_tr q z] at h2; cases h2
        · rw [← z, q] at h2; cases h2
        · rw [z] at h1; cases h1
    · cases q : lexK b a with
      | false => simp
      | true => rw [lexK_asym q]; simp
  exact (h.and nd).imp fun {x y} h => by
    rcases lexK_tri x y with c | c | c
    · exact c
    · exact absurd c h.2
    · have := h.1; rw [c] at this; cases this
theorem ascT_eq {kss ys : List (List Key)} (h1 : ∀ k, k ∈ ys ↔ k ∈ kss) (h2 : ys.Pairwise fun x y => lexK x y = true) : ys = ascT kss := lexK_uniq h2 (ascT_lt kss) fun k => by rw [h1, ascT_mem]
end DL
set_option maxRecDepth 100000
set_option maxHeartbeats 4000000
/-! HX8: enumerate(xs), xs a list or a tuple. -/
namespace DL
open PySem PySem.Spec PyProof.Rows L2
theorem meets_enum1 {v : Value} {o : Obj} {Hq : Heap → Prop} (B : Begins v o Hq) :
    Meets (Builtin.«enumerate.__new__» ⟨[.type "enumerate", v], []⟩) (fun _ R z => Hq z.heap ∧
      R (.ok (.ret (.ref (z.heap.push o).objs.size))) { z with heap := (z.heap.push o).push { cls := .type "enumerate", data := .fields #[.none, .bool false, .ref z.heap.objs.size, rawInt 0, .none, .none] } }) :=
  .of_wp fun prog w A R z h => by
    obtain ⟨hp, g, d, tk, os⟩ := z
    obtain ⟨h1, h⟩ := h
    have ty := PySem.sub_enumerate
    have go : ∀ {A' : Around} {E : Value → Shared → Prop} {Q : Value → Shared → Prop}, Q (.ref hp.objs.size) ⟨hp.push o, g, d, tk, os⟩ → wpAny (model prog w) A' (pyIter v) Q E ⟨hp, g, d, tk, os⟩ :=
      fun q => B.iter prog w _ _ ⟨hp, g, d, tk, os⟩ _ h1 q
    wp_walk using go
    refine wpAny_stack_any fun st => wpAny_pure ?_
    split
    · rename_i c _ _ _ _ _
      cases (c == Value.type "enumerate") <;> (wp_walk using go; exact ⟨_, rfl, h⟩)
    · wp_walk using go
      exact ⟨_, rfl, h⟩
section
variable {P : Program} {w : World} {A : Around} {E : Value → Shared → Prop} {s : Shared}
theorem call_enumT {l : Addr} {items : Array Value} {Q : Value → Shared → Prop} (hl : s.heap.IsTuple l items)
    (h : ∀ h', IsEnum h' (s.heap.objs.size + 1) s.heap.objs.size 0 .none → h'.IsTupleIter s.heap.objs.size l 0 → h'.objs.size = s.heap.objs.size + 2 → (∀ b o, s.heap.get? b = some o → h'.get? b = some o) → Q (.ref (s.heap.objs.size + 1)) { s with heap := h' }) :
    wpAny (model P w) A (call (.type "enumerate") [.ref l]) Q E s := by
  refine callType_new F.called_enumerate (by decide) (F.typeCall_enumerate_1 _) (F.newCall_enumerate_1 _) (fun obj => F.args_object_init_2 obj _) F.entry_enumerate_new
    (meets_enum1 (begins_tuple l items)) ⟨hl, ?_⟩
  have sz : (s.heap.push { cls := .type "tuple_iterator", data := .fields #[.ref l, .int 0 0] }).objs.size = s.heap.objs.size + 1 := Heap.size_push ..
  show _ ∧ _
  rw [sz]
  have at_ : IsEnum ((s.heap.push { cls := .type "tuple_iterator", data := .fields #[.ref l, .int 0 0] }).push { cls := .type "enumerate", data := .fields #[.none, .bool false, .ref s.heap.objs.size, rawInt 0, .none, .none] }) (s.heap.objs.size + 1) s.heap.objs.size 0 .none := by
    have q := Heap.get?_push_size (s.heap.push { cls := .type "tuple_iterator", data := .fields #[.ref l, .int 0 0] }) (o := { cls := .type "enumerate", data := .fields #[.none, .bool false, .ref s.heap.objs.size, rawInt 0, .none, .none] }) rfl
    rw [sz] at q; exact q
  exact ⟨⟨_, at_, rfl⟩, h _ at_ ⟨_, Heap.get?_push_of_some _ (Heap.get?_push_size _ rfl), rfl, rfl⟩ (by rw [Heap.size_push, sz]) fun b o e => Heap.get?_push_of_some _ (Heap.get?_push_of_some _ e)⟩
end
theorem end_enumT {P : Program} {w : World} {A : Around} {E : Value → Shared → Prop} {s : Shared} {e it a : Addr} {i : Nat} {j : Int} {items : Array Value} {old : Value} {Q : Option Value → Shared → Prop} (hh : A.handled = none)
    (he : IsEnum s.heap e it j old) (hit : s.heap.IsTupleIter it a i) (ht : s.heap.IsTuple a items) (hx : items[i]? = none) (hQ : ∀ h', Heap.ExtBut it s.heap h' → Q none { s with heap := h' }) : wpAny (model P w) A (pyNext (.ref e)) Q E s := by
  have ty : s.TypeIs (.ref e) "enumerate" := ⟨_, he, rfl⟩
  unfold pyNext
  refine wpAny_bind (wpAny_attempt (wpAny_callSpecial?_slot (name := Str.ofString "__next__") ty F.slot_enumerate_next (wpAny_call_entry F.slot_enumerate_next ty F.entry_enumerate_next ?_ (F.args_enumerate_next_1 _))))
  show wpAny _ _ (field (.ref e) 2 >>= _) _ _ _
  refine wpAny_bind (wpAny_field he rfl (x := .ref it) rfl ?_)
  refine wpAny_bind (wpAny_nextOf_tuple_end (by simpa using hh) hit ht hx fun h' x he' hx' => ?_)
  obtain ⟨o, ho, hc⟩ := hx'
  refine wpAny_bind (wpAny_isInstance (T := "StopIteration") (b := true) ⟨o, ho, hc⟩ isSubtype_stop ?_)
  exact wpAny_pure (hQ _ he')
def IteT (K : PySem.W.Frag) (a : Addr) : It :=
  ⟨fun i H => ∃ (xs : List V) (x : V), SqT K H a xs ∧ xs[i]? = some x, fun i H v H' => ∃ T x, v = .ref T ∧ H T = none ∧ H' = upd H T (.tup [.int (i : Nat), x]) ∧ ∀ xs, SqT K H a xs → xs[i]? = some x, fun i H => ∃ xs : List V, SqT K H a xs ∧ xs.length ≤ i⟩
theorem turn_enumT {P : Program} {w : World} {K : PySem.W.Frag} {elts : List Expr} {kk : Nat} {tpos : Pos} (a e it : Addr) :
    Turn P w K (.Tuple elts kk tpos) (IteT K a) [e, it] e (fun i h => (∃ old, IsEnum h e it ((i : Nat) : Int) old) ∧ h.IsTupleIter it a i ∧ e ≠ it ∧ a ≠ e ∧ a ≠ it) where
  mem := by simp
  obj := fun i h st b hb => by
    obtain ⟨⟨old, he⟩, ⟨o, ho, hc, hd⟩, _⟩ := st
    rcases (show b = e ∨ b = it from by simpa using hb) with z | z
    · rw [z]; exact ⟨_, he, fun v q => nomatch q⟩
    · rw [z]; exact ⟨o, ho, fun v q => by rw [hd] at q; cases q⟩
  keep := fun i h h' st k => let ⟨⟨old, he⟩, hi, r⟩ := st; ⟨⟨old, k e (by simp) _ he⟩, hi.at fun o q => k it (by simp) o q, r⟩
  item := by
    intro X hP hw hK hc i pins s σ H E I hf st hg
    subst hP hw hK
    obtain ⟨⟨old, he⟩, hit, hne, ha1, ha2⟩ := st
    obtain ⟨xs, x, hq, hx⟩ := hg
    obtain ⟨its, rv, p, hz⟩ := I.tuple hq
    obtain ⟨u, hu, ru⟩ := rv.get hx
    have le : e < s.heap.objs.size := Heap.lt_size he
    have li : it < s.heap.objs.size := by obtain ⟨_, q, _⟩ := hit; exact Heap.lt_size q
    have D := Draws.tuple (prog := X.prog) (w := X.w) (A := X.A.in1) (by simpa using I.ok.hd hc) it a ha2 its.toArray
    have hlt : i < its.toArray.size := by rw [List.size_toArray]; exact (List.getElem?_eq_some_iff.mp hu).1
    refine wpAny_pyNext_enum_itemD D he ⟨hit, p⟩ hlt hne (by simp [hne, ha1.symm]) fun y h' tk hy ho hst hT hsz hk => ?_
    have ey : y = u := by
      have q : its[i]? = some y := by simpa using hy
      rw [hu] at q
      exact (Option.some.inj q).symm
    subst ey
    refine ⟨_, rfl, wpAny_letOwnedTupleGo_enum (s := { s with heap := h', toks := tk + 1 }) ho fun h'' he' sb => ?_⟩
    have hT2 : h''.get? s.heap.objs.size = some { cls := .type "tuple", data := .seq #[.int i tk, y] } := (sb.2 _ (Nat.ne_of_gt le)).trans hT
    have new : ObjOk X.prog X.w (upd H s.heap.objs.size (.tup [.int (i : Nat), x])) h'' s.heap.objs.size (.tup [.int (i : Nat), x]) :=
      ⟨by show 2 ≤ sizeLine; decide, [.int i tk, y], .cons ⟨_, rfl⟩ (.cons ru .nil), ⟨_, hT2, rfl, _, rfl⟩⟩
    have I1 : Inv X pins σ (upd H s.heap.objs.size (.tup [.int (i : Nat), x])) { s with heap := h'', toks := tk + 1 } :=
      I.turnedNew (ch := [e, it]) (fun b ob hb q => (sb.2 b (fun z => hb (by simp [z]))).trans (hk b ob (fun z => hb (by simp [z])) (fun z => hb (by simp [z])) q)) hf (Nat.le_refl _) new
    refine ⟨.ref s.heap.objs.size, _, I1, rfl, ⟨_, x, rfl, I.hok.fresh (Nat.le_refl _), rfl, fun ys hy => by rw [I.tuple_inj hy hq]; exact hx⟩, ⟨⟨y, ?_⟩, hst.1.at fun o q => (sb.2 it (Ne.symm hne)).trans q, hne, ha1, ha2⟩, fun b hb => ?_⟩
    · rw [show ((i + 1 : Nat) : Int) = (i : Int) + 1 from by omega]; exact he'
    · have lb : b < s.heap.objs.size := by
        rcases (show b = e ∨ b = it from by simpa using hb) with z | z
        · rw [z]; exact le
        · rw [z]; exact li
      rw [upd_ne (Nat.ne_of_lt lb)]
      exact (hf b hb).1
  done := by
    intro X hP hw hK hc i pins s σ H E I hf st hg
    subst hP hw hK
    obtain ⟨⟨old, he⟩, hit, hne, ha1, ha2⟩ := st
    obtain ⟨xs, hq, hx⟩ := hg
    obtain ⟨its, rv, p, hz⟩ := I.tuple hq
    obtain ⟨f0, f1, f2, f3, f4, f5⟩ := hf it (by simp)
    have hl := rv.length
    exact end_enumT (I.ok.hd hc) he hit p (by simp; omega) fun h' eb => ⟨rfl, I.turned (t' := s.toks) (fun b o hb q => eb b o hb q) f0 f1 f3 f4 f5⟩
  self := fun A i s Q E st h => let ⟨⟨_, he⟩, _⟩ := st; wpAny_pyIter_enum he h
def iEnumU (K : PySem.W.Frag) (ta : TA) : TI := fun σ H R => ta σ H fun vs H1 => ∃ a xs, vs = [.ref a] ∧ ((SqL K H1 a xs ∧ R (Ite K a) H1) ∨ (SqT K H1 a xs ∧ R (IteT K a) H1))
theorem pi_enumU {X : Cx} {e : Expr} {ta : TA} {p pos tpos : Pos} {elts : List Expr} {kk : Nat} (hg : Gl X "enumerate") (hm : X.mg "enumerate" = none) (ha : PA X [e] ta) (hs : starEach [e] X.env = [(false, eval e X.env)] := by rfl) :
    PI X (.Tuple elts kk tpos) (.Call (.Name "enumerate" p) [e] [] pos) (iEnumU X.K ta) := by
  refine ⟨fun pins s σ H R I h => ?_⟩
  refine Call_ (ld_blt I hg hm boot_enumerate (PyProof.Rows.callWith_type1 (thn (ha.run pos pins s σ H _ I h) fun us s1 ⟨vs, H1, I1, r1, q1⟩ => ?_) hs rfl))
  obtain ⟨a, xs, ex, q⟩ := q1
  subst ex
  obtain rfl := Vals.ref1 r1
  have big : ∀ b, b ∈ [s1.heap.objs.size + 1, s1.heap.objs.size] → s1.heap.objs.size ≤ b := fun b hb => by
    rcases (show b = s1.heap.objs.size + 1 ∨ b = s1.heap.objs.size from by simpa using hb) with z | z
    · rw [z]; exact Nat.le_add_right _ _
    · rw [z]; exact Nat.le_refl _
  rcases q with ⟨hq, q⟩ | ⟨hq, q⟩
  · obtain ⟨its, rv, p', hz⟩ := I1.list hq
    refine call_enumerate_list p'.isList fun h' he hit hsz hk => wpAny_pyIter_enum he ?_
    have I2 : Inv X pins σ H1 { s1 with heap := h' } := I1.kept (t' := s1.toks) hk
    exact ⟨s1.heap.objs.size + 1, [s1.heap.objs.size + 1, s1.heap.objs.size], _, _, H1, rfl, I2, turn_enum a (s1.heap.objs.size + 1) s1.heap.objs.size, ⟨⟨.none, he⟩, hit, Nat.succ_ne_self _⟩, fun b hb => I1.fpOk (big b hb) (I1.hok.fresh (big b hb)), q⟩
  · obtain ⟨its, rv, pt, hz⟩ := I1.tuple hq
    have la : a < s1.heap.objs.size := by obtain ⟨o, g1, _⟩ := pt; exact Heap.lt_size g1
    refine call_enumT pt fun h' he hit hsz hk => wpAny_pyIter_enum he ?_
    have I2 : Inv X pins σ H1 { s1 with heap := h' } := I1.kept (t' := s1.toks) hk
    exact ⟨s1.heap.objs.size + 1, [s1.heap.objs.size + 1, s1.heap.objs.size], _, _, H1, rfl, I2, turn_enumT a (s1.heap.objs.size + 1) s1.heap.objs.size, ⟨⟨.none, he⟩, hit, Nat.succ_ne_self _, Nat.ne_of_lt (Nat.lt_succ_of_lt la), Nat.ne_of_lt la⟩, fun b hb => I1.fpOk (big b hb) (I1.hok.fresh (big b hb)), q⟩
end DL
set_option maxRecDepth 100000
set_option maxHeartbeats 4000000
/-! DL1: data with an abstract heap: D, Rep, Grow, the pen, what an expression gives (Ev), what a statement does (Wp). -/
namespace DL
open PySem L2
/-- the tables of code objects (of defs that make lambdas) that a law knows -/
class Tbl where
  T : List (Addr × Str)

/-! ### data -/
inductive D where
  | non | bl (b : Bool) | int (i : Int) | str (s : Str)
  | lst (ds : List D) | tup (ds : List D)
  | dct (ks : List Key) (ds : List D)
  | dcf (ks : List Key) (ds : List D)
  | dtf (ks : List (List Key)) (ds : List D)
  | obj (C : Addr) (ns : List Str) (ds : List D)
  | exc (a dx : Addr) (ns : List Str) (ds : List D)
  | ptr (a : Addr)
  | err (C : Addr) (ns : List Str) (ds : List D)

mutual
inductive Rep (K : PySem.W.Frag) (H : Hp) : V → D → Prop
  | non : Rep K H .non .non
  | bl (b : Bool) : Rep K H (.bl b) (.bl b)
  | int (i : Int) : Rep K H (.int i) (.int i)
  | str (x : Str) : Rep K H (.str x) (.str x)
  | lst {a : Addr} {xs : List V} {ds : List D} : H a = some (.lst xs) → Reps K H xs ds → Rep K H (.ref a) (.lst ds)
  | tup {a : Addr} {xs : List V} {ds : List D} : SqT K H a xs → Reps K H xs ds → Rep K H (.ref a) (.tup ds)
  | dct {a : Addr} {ks : List Key} {xs : List V} {ds : List D} : H a = some (.dK (ks.zip xs)) → ks.length = xs.length → Reps K H xs ds → Rep K H (.ref a) (.dct ks ds)
  | dcf {a : Addr} {o : Obj} {ks : List Key} {xs : List V} {ds : List D} : H a = some (.frz o (.dK (ks.zip xs))) → ks.length = xs.length → Reps K H xs ds → Rep K H (.ref a) (.dcf ks ds)
  | dtf {a : Addr} {o : Obj} {ks : List (List Key)} {xs : List V} {ds : List D} : H a = some (.frz o (.dT (ks.zip xs))) → ks.length = xs.length → Reps K H xs ds → Rep K H (.ref a) (.dtf ks ds)
  | obj {a C dx : Addr} {ns : List Str} {xs : List V} {ds : List D} : H a = some (.ins C dx (ns.zip xs)) → ns.length = xs.length → Reps K H xs ds → Rep K H (.ref a) (.obj C ns ds)
  | exc {a dx : Addr} {ns : List Str} {xs : List V} {ds : List D} : H dx = some (.xd (ns.zip xs)) → ns.length = xs.length → Reps K H xs ds → Rep K H (.ref a) (.exc a dx ns ds)
  | ptr (a : Addr) : Rep K H (.ref a) (.ptr a)
  | err {a C dx : Addr} {ns : List Str} {xs : List V} {ds : List D} : H a = some (ExK (.ref C) (some dx) a) → H dx = some (.xd (ns.zip xs)) → ns.length = xs.length → Reps K H xs ds → Rep K H (.ref a) (.err C ns ds)
  | err0 {a C : Addr} : H a = some (ExK (.ref C) none a) → Rep K H (.ref a) (.err C [] [])
inductive Reps (K : PySem.W.Frag) (H : Hp) : List V → List D → Prop
  | nil : Reps K H [] []
  | cons {v : V} {vs : List V} {d : D} {ds : List D} : Rep K H v d → Reps K H vs ds → Reps K H (v :: vs) (d :: ds)
end

theorem same_sqt {K : PySem.W.Frag} {H H' : Hp} {a : Addr} {xs : List V} (e : Same H H') (h : SqT K H a xs) : SqT K H' a xs := by
  rcases h with (h | ⟨o, h⟩) | h
  · exact .inl (.inl (e _ _ h))
  · exact .inl (.inr ⟨o, e _ _ h⟩)
  · exact .inr h

section
variable {K : PySem.W.Frag} {H H' : Hp}
mutual
theorem Rep.mono (e : Same H H') : ∀ {v : V} {d : D}, Rep K H v d → Rep K H' v d
  | _, _, .non => .non
  | _, _, .bl b => .bl b
  | _, _, .int i => .int i
  | _, _, .str x => .str x
  | _, _, .lst h r => .lst (e _ _ h) (Reps.mono e r)
  | _, _, .tup h r => .tup (same_sqt e h) (Reps.mono e r)
  | _, _, .dct h l r => .dct (e _ _ h) l (Reps.mono e r)
  | _, _, .dcf h l r => .dcf (e _ _ h) l (Reps.mono e r)
  | _, _, .dtf h l r => .dtf (e _ _ h) l (Reps.mono e r)
  | _, _, .obj h l r => .obj (e _ _ h) l (Reps.mono e r)
  | _, _, .exc h l r => .exc (e _ _ h) l (Reps.mono e r)
  | _, _, .ptr a => .ptr a
  | _, _, .err h1 h2 l r => .err (e _ _ h1) (e _ _ h2) l (Reps.mono e r)
  | _, _, .err0 h => .err0 (e _ _ h)
theorem Reps.mono (e : Same H H') : ∀ {vs : List V} {ds : List D}, Reps K H vs ds → Reps K H' vs ds
  | _, _, .nil => .nil
  | _, _, .cons h r => .cons (Rep.mono e h) (Reps.mono e r)
end
theorem Reps.length : ∀ {vs : List V} {ds : List D}, Reps K H vs ds → vs.length = ds.length
  | _, _, .nil => rfl
  | _, _, .cons _ r => by rw [List.length_cons, List.length_cons, Reps.length r]
theorem Reps.get : ∀ {vs : List V} {ds : List D} {i : Nat} {d : D}, Reps K H vs ds → ds[i]? = some d → ∃ v, vs[i]? = some v ∧ Rep K H v d
  | _, _, _, _, .nil, e => by simp at e
  | _, _, 0, d, .cons h r, e => by simp at e; subst e; exact ⟨_, rfl, h⟩
  | _, _, i + 1, d, .cons h r, e => by
    obtain ⟨v, h1, h2⟩ := Reps.get (i := i) (d := d) r (by simpa using e)
    exact ⟨v, by simpa using h1, h2⟩
theorem Reps.get' : ∀ {vs : List V} {ds : List D} {i : Nat} {v : V}, Reps K H vs ds → vs[i]? = some v → ∃ d, ds[i]? = some d ∧ Rep K H v d
  | _, _, _, _, .nil, e => by simp at e
  | _, _, 0, d, .cons h r, e => by simp at e; subst e; exact ⟨_, rfl, h⟩
  | _, _, i + 1, d, .cons h r, e => by
    obtain ⟨v, h1, h2⟩ := Reps.get' (i := i) (v := d) r (by simpa using e)
    exact ⟨v, by simpa using h1, h2⟩
theorem Reps.append : ∀ {vs ws : List V} {ds es : List D}, Reps K H vs ds → Reps K H ws es → Reps K H (vs ++ ws) (ds ++ es)
  | _, _, _, _, .nil, s => s
  | _, _, _, _, .cons h r, s => .cons h (Reps.append r s)
theorem Reps.take : ∀ {vs : List V} {ds : List D} (n : Nat), Reps K H vs ds → Reps K H (vs.take n) (ds.take n)
  | _, _, 0, _ => .nil
  | _, _, _ + 1, .nil => .nil
  | _, _, n + 1, .cons h r => .cons h (Reps.take n r)
theorem Reps.drop : ∀ {vs : List V} {ds : List D} (n : Nat), Reps K H vs ds → Reps K H (vs.drop n) (ds.drop n)
  | _, _, 0, r => r
  | _, _, _ + 1, .nil => .nil
  | _, _, n + 1, .cons h r => Reps.drop n r
theorem Reps.set {v : V} {d : D} (h0 : Rep K H v d) : ∀ {vs : List V} {ds : List D} (n : Nat), Reps K H vs ds → Reps K H (vs.set n v) (ds.set n d)
  | _, _, _, .nil => .nil
  | _, _, 0, .cons h r => .cons h0 r
  | _, _, n + 1, .cons h r => .cons h (Reps.set h0 n r)
theorem Reps.erase : ∀ {vs : List V} {ds : List D} (n : Nat), Reps K H vs ds → Reps K H (vs.eraseIdx n) (ds.eraseIdx n)
  | _, _, _, .nil => .nil
  | _, _, 0, .cons h r => r
  | _, _, n + 1, .cons h r => .cons h (Reps.erase n r)
theorem Reps.reverse : ∀ {vs : List V} {ds : List D}, Reps K H vs ds → Reps K H vs.reverse ds.reverse
  | _, _, .nil => .nil
  | _, _, .cons h r => by rw [List.reverse_cons, List.reverse_cons]; exact Reps.append (Reps.reverse r) (.cons h .nil)
theorem reps_ints : ∀ (ns : List Int), Reps K H (ns.map V.int) (ns.map D.int)
  | [] => .nil
  | n :: ns => .cons (.int n) (reps_ints ns)
theorem reps_strs : ∀ (ns : List Str), Reps K H (ns.map V.str) (ns.map D.str)
  | [] => .nil
  | n :: ns => .cons (.str n) (reps_strs ns)
theorem Reps.rep (n : Nat) {vs : List V} {ds : List D} (r : Reps K H vs ds) : Reps K H (List.replicate n vs).flatten (List.replicate n ds).flatten := by
  induction n with
  | zero => exact .nil
  | succ n ih => rw [List.replicate_succ, List.replicate_succ, List.flatten_cons, List.flatten_cons]; exact Reps.append r ih
theorem Reps.of_ints : ∀ {vs : List V} {ns : List Int}, Reps K H vs (ns.map D.int) → vs = ns.map V.int
  | _, [], .nil => rfl
  | _, n :: ns, .cons h r => by
    cases h
    rw [Reps.of_ints r]; rfl
theorem Reps.of_strs : ∀ {vs : List V} {ns : List Str}, Reps K H vs (ns.map D.str) → vs = ns.map V.str
  | _, [], .nil => rfl
  | _, n :: ns, .cons h r => by
    cases h
    rw [Reps.of_strs r]; rfl
theorem Reps.of_bls : ∀ {vs : List V} {ns : List Bool}, Reps K H vs (ns.map D.bl) → vs = ns.map V.bl
  | _, [], .nil => rfl
  | _, n :: ns, .cons h r => by
    cases h
    rw [Reps.of_bls r]; rfl
end

/-! ### tables -/
def isPl : HO → Bool
  | .ext _ => false
  | .tbl _ => false
  | _ => true
theorem pl_free {H : Hp} {a : Addr} (h : H a = none) : ∀ u, H a = some u → isPl u = true := fun u z => by rw [h] at z; cases z
theorem pl_some {H : Hp} {a : Addr} {o : HO} (h : H a = some o) (e : isPl o = true) : ∀ u, H a = some u → isPl u = true := fun u z => by rw [h] at z; cases z; exact e
theorem nt_pl {o : HO} (e : isPl o = true) : ∀ ps, o ≠ .tbl ps := fun ps z => by rw [z] at e; cases e
theorem tab_write {H : Hp} {P a : Addr} {q : Str} {o : HO} (t : LamX.TabS H P q) (w : ∀ u, H a = some u → isPl u = true) : LamX.TabS (upd H a o) P q := by
  obtain ⟨ps, h1, h2, h3⟩ := t
  have n1 : P ≠ a := fun z => by subst z; exact absurd (w _ h1) (by simp [isPl])
  refine ⟨ps, by rw [upd_ne n1]; exact h1, h2, fun pos cv hc => ?_⟩
  obtain ⟨c, e1, e2⟩ := h3 pos cv hc
  have n2 : c ≠ a := fun z => by subst z; exact absurd (w _ e2) (by simp [isPl, LamX.CodeO])
  exact ⟨c, e1, by rw [upd_ne n2]; exact e2⟩
theorem tabs_write {T : List (Addr × Str)} {H : Hp} {a : Addr} {o : HO} (t : LamX.Tabs T H) (w : ∀ u, H a = some u → isPl u = true) : LamX.Tabs T (upd H a o) := fun q hq => tab_write (t q hq) w
theorem tabs_same {T : List (Addr × Str)} {H H' : Hp} {a : Addr} {o : HO} (t : LamX.Tabs T H) (w : ∀ u, H a = some u → isPl u = true) (e : H' a = some o) (h : ∀ b, b ≠ a → H' b = H b) : LamX.Tabs T H' := by
  have q : H' = upd H a o := funext fun b => by
    by_cases z : b = a
    · subst z; rw [upd_same]; exact e
    · rw [upd_ne z]; exact h b z
  rw [q]; exact tabs_write t w
variable [Tbl]
/-! ### growth: Hd holds the data, H all; the object at p (the pen) may change, tables too if there is a pen -/
structure Grow (p : Option Addr) (Hd H Hd' H' : Hp) : Prop where
  d : Same Hd Hd'
  h : ∀ b o, p ≠ some b → (p = none ∨ ∀ ps, o ≠ .tbl ps) → H b = some o → H' b = some o
  s : Same Hd' H'
  f : ∀ a, H a ≠ none → Hd a = none → Hd' a = none
  m : ∀ a, H a ≠ none → H' a ≠ none
  t : LamX.Tabs Tbl.T H → LamX.Tabs Tbl.T H'
section
variable {p : Option Addr} {Hd H Hd' H' Hd2 H2 : Hp}
theorem Grow.refl (s : Same Hd H) : Grow p Hd H Hd H := ⟨Same.refl _, fun _ _ _ _ h => h, s, fun _ _ h => h, fun _ h => h, id⟩
theorem Grow.trans (a : Grow p Hd H Hd' H') (b : Grow p Hd' H' Hd2 H2) : Grow p Hd H Hd2 H2 :=
  ⟨a.d.trans b.d, fun c o n k h => b.h c o n k (a.h c o n k h), b.s, fun c h n => b.f c (a.m c h) (a.f c h n), fun c h => b.m c (a.m c h), fun z => b.t (a.t z)⟩
theorem Grow.free (a : Grow p Hd H Hd' H') {l : Addr} (h : H' l = none) : H l = none := by
  cases q : H l with
  | none => rfl
  | some o => exact absurd h (a.m l (by rw [q]; simp))
/-- a new object, which is data -/
theorem Grow.new {a : Addr} {o : HO} (s : Same Hd H) (h : H a = none) : Grow p Hd H (upd Hd a o) (upd H a o) := by
  have hd : Hd a = none := s.free h
  refine ⟨fun b u e => ?_, fun b u _ _ e => ?_, fun b u e => ?_, fun b e n => ?_, fun b e => ?_, fun z => tabs_write z (pl_free h)⟩
  · rw [upd_ne (ne_of_none e hd)]; exact e
  · rw [upd_ne (ne_of_none e h)]; exact e
  · by_cases q : b = a
    · subst q; rw [upd_same] at e ⊢; exact e
    · rw [upd_ne q] at e ⊢; exact s _ _ e
  · have q : b ≠ a := fun z => by subst z; exact e h
    rw [upd_ne q]; exact n
  · by_cases q : b = a
    · subst q; rw [upd_same]; simp
    · rw [upd_ne q]; exact e
/-- a new object that is no data (as yet) -/
theorem Grow.loc {a : Addr} {o : HO} (s : Same Hd H) (h : H a = none) : Grow p Hd H Hd (upd H a o) := by
  refine ⟨Same.refl _, fun b u _ _ e => ?_, fun b u e => ?_, fun b e n => n, fun b e => ?_, fun z => tabs_write z (pl_free h)⟩
  · rw [upd_ne (ne_of_none e h)]; exact e
  · rw [upd_ne (ne_of_none (s _ _ e) h)]; exact s _ _ e
  · by_cases q : b = a
    · subst q; rw [upd_same]; simp
    · rw [upd_ne q]; exact e
/-- an object that the entry did not know is written -/
theorem Grow.write {a : Addr} {o : HO} (g : Grow p Hd H Hd' H') (h : H a = none) (hd : Hd' a = none) (w : ∀ u, H' a = some u → isPl u = true) : Grow p Hd H Hd' (upd H' a o) := by
  refine ⟨g.d, fun b u n k e => ?_, fun b u e => ?_, g.f, fun b e => ?_, fun z => tabs_write (g.t z) w⟩
  · rw [upd_ne (ne_of_none e h)]; exact g.h b u n k e
  · rw [upd_ne (ne_of_none e hd)]; exact g.s _ _ e
  · by_cases q : b = a
    · subst q; rw [upd_same]; simp
    · rw [upd_ne q]; exact g.m b e
/-- .. and becomes data -/
theorem Grow.freeze {a : Addr} {o : HO} (s0 : Same Hd H) (g : Grow p Hd H Hd' H') (h : H a = none) (hd : Hd' a = none) (e : H' a = some o) : Grow p Hd H (upd Hd' a o) H' := by
  refine ⟨fun b u q => ?_, g.h, fun b u q => ?_, fun b q n => ?_, g.m, g.t⟩
  · rw [upd_ne (ne_of_none (g.d _ _ q) hd)]; exact g.d _ _ q
  · by_cases z : b = a
    · subst z; rw [upd_same] at q; cases q; exact e
    · rw [upd_ne z] at q; exact g.s _ _ q
  · have z : b ≠ a := fun z => by subst z; exact q h
    rw [upd_ne z]; exact g.f b q n
theorem Grow.up (g : Grow none Hd H Hd' H') : Grow p Hd H Hd' H' := ⟨g.d, fun b o _ _ e => g.h b o (by simp) (.inl rfl) e, g.s, g.f, g.m, g.t⟩
theorem Grow.back (g : Grow p Hd H Hd' H') {a : Addr} (h : Hd a = none) (n : H a ≠ none) : Hd' a = none := g.f a n h
end

/-! ### the pen: its dict at a, its cells at c -/
def LIM : Nat := 1000000000000
def penKvs (c : Addr) (i dg ct fd : Int) : List (Key × V) := [(.inr "cells", .ref c), (.inr "at", .int i), (.inr "digits", .int dg), (.inr "count", .int ct), (.inr "fold", .int fd)]
structure PenAt (n : Nat) (Hd H : Hp) (a c : Addr) : Prop where
  h : ∃ i dg ct fd : Int, H a = some (.dK (penKvs c i dg ct fd)) ∧ 0 ≤ i ∧ 0 ≤ dg ∧ 0 ≤ ct ∧ ct ≤ n ∧ 0 ≤ fd ∧ fd < 2147483587
  d : Hd a = none
  c : ∃ ns : List Int, Hd c = some (.lst (ns.map V.int)) ∧ ns.length ≤ 63
  t : LamX.Tabs Tbl.T H ∧ ∀ q ∈ Tbl.T, Hd q.1 = none
abbrev Pn := Option (Addr × Addr)
abbrev Pn.a (p : Pn) : Option Addr := p.map (·.1)
def PenO : Pn → Nat → Hp → Hp → Prop
  | none, _, _, _ => True
  | some (a, c), n, Hd, H => PenAt n Hd H a c
section
variable {p : Pn} {n m : Nat} {Hd H Hd' H' : Hp}
theorem PenO.more (h : PenO p n Hd H) (e : n ≤ m) : PenO p m Hd H := by
  cases p with
  | none => exact True.intro
  | some q =>
    obtain ⟨⟨i, dg, ct, fd, h1, h2, h3, h4, h5, h6⟩, hd, hc, ht⟩ := h
    exact ⟨⟨i, dg, ct, fd, h1, h2, h3, h4, by omega, h6⟩, hd, hc, ht⟩
theorem PenO.grow (h : PenO p n Hd H) (g : Grow none Hd H Hd' H') : PenO p n Hd' H' := by
  cases p with
  | none => exact True.intro
  | some q =>
    obtain ⟨⟨i, dg, ct, fd, h1, h2⟩, hd, ⟨ns, hc, hl⟩, ht⟩ := h
    exact ⟨⟨i, dg, ct, fd, g.h _ _ (by simp) (.inl rfl) h1, h2⟩, g.f _ (by rw [h1]; simp) hd, ⟨ns, g.d _ _ hc, hl⟩, g.t ht.1, fun q hq => g.f _ (by obtain ⟨ps, z, _⟩ := ht.1 q hq; rw [z]; exact fun y => nomatch y) (ht.2 q hq)⟩
/-- an object beside the pen is written -/
theorem PenO.write {b : Addr} {o : HO} (h : PenO p n Hd H) (e : p.a ≠ some b) (w : ∀ u, H b = some u → isPl u = true) : PenO p n Hd (upd H b o) := by
  cases p with
  | none => exact True.intro
  | some q =>
    obtain ⟨⟨i, dg, ct, fd, h1, h2⟩, hd, hc, ht⟩ := h
    refine ⟨⟨i, dg, ct, fd, ?_, h2⟩, hd, hc, tabs_write ht.1 w, ht.2⟩
    rw [upd_ne (fun z => e (by subst z; rfl))]; exact h1
theorem PenO.freeze {b : Addr} {o : HO} (h : PenO p n Hd H) (e : p.a ≠ some b) (nb : Hd b = none) (w : ∀ u, H b = some u → isPl u = true) : PenO p n (upd Hd b o) H := by
  cases p with
  | none => exact True.intro
  | some q =>
    obtain ⟨h1, hd, ⟨ns, hc, hl⟩, ht⟩ := h
    refine ⟨h1, ?_, ⟨ns, ?_, hl⟩, ht.1, fun q hq => ?_⟩
    · rw [upd_ne (fun z => e (by subst z; rfl))]; exact hd
    · rw [upd_ne (ne_of_none hc nb)]; exact hc
    · obtain ⟨ps, z, _⟩ := ht.1 q hq
      rw [upd_ne (fun y => by have := w _ (y ▸ z); cases this)]; exact ht.2 q hq
theorem PenO.ne (h : PenO p n Hd H) {b : Addr} {o : HO} (e : Hd b = some o) : p.a ≠ some b := by
  cases p with
  | none => simp
  | some q =>
    intro z
    have z' : q.1 = b := by simpa using z
    subst z'
    have := h.d
    rw [e] at this; cases this
end

/-! ### slots -/
inductive Sk where
  | un | dat (d : D) | own (ds : List D) | ow (a : Addr) (ds : List D) | odk (ks : List Key) (ds : List D) | slf (a C dx : Addr) (ns : List Str) (ds : List D) | pen
def Sk.isOwn : Sk → Bool
  | .own _ => true
  | .ow _ _ => true
  | .odk _ _ => true
  | .slf _ _ _ _ _ => true
  | _ => false
def SkAt (K : PySem.W.Frag) (p : Pn) (Hd H : Hp) (o : Option V) : Sk → Prop
  | .un => True
  | .dat d => ∃ v, o = some v ∧ Rep K Hd v d
  | .own ds => ∃ l vs, o = some (.ref l) ∧ H l = some (.lst vs) ∧ Hd l = none ∧ Reps K Hd vs ds ∧ p.a ≠ some l
  | .ow a ds => ∃ l vs, o = some (.ref l) ∧ H l = some (.lst vs) ∧ l = a ∧ Hd l = none ∧ Reps K Hd vs ds ∧ p.a ≠ some l
  | .odk ks ds => ∃ l vs, o = some (.ref l) ∧ H l = some (.dK (ks.zip vs)) ∧ ks.length = vs.length ∧ Hd l = none ∧ Reps K Hd vs ds ∧ p.a ≠ some l
  | .slf a C dx ns ds => ∃ l vs, o = some (.ref l) ∧ H l = some (.ins C dx (ns.zip vs)) ∧ (ns.length = vs.length ∧ l = a) ∧ Hd l = none ∧ Reps K Hd vs ds ∧ p.a ≠ some l
  | .pen => ∃ a, o = some (.ref a) ∧ p.a = some a
structure SR (K : PySem.W.Frag) (p : Pn) (Hd H : Hp) (σ : St) (Γ : List Sk) : Prop where
  len : σ.length = Γ.length
  ok : ∀ (i : Nat) o k, σ[i]? = some o → Γ[i]? = some k → SkAt K p Hd H o k
  ap : ∀ (i j : Nat) k1 k2 l, i ≠ j → Γ[i]? = some k1 → k1.isOwn = true → Γ[j]? = some k2 → k2.isOwn = true → σ[i]? = some (some (.ref l)) → σ[j]? ≠ some (some (.ref l))
section
variable {K : PySem.W.Frag} {p : Pn} {Hd H Hd' H' : Hp} {σ : St} {Γ : List Sk} {i : Nat}
theorem SkAt.grow {o : Option V} {k : Sk} (g : Grow p.a Hd H Hd' H') (h : SkAt K p Hd H o k) : SkAt K p Hd' H' o k := by
  cases k with
  | un => exact True.intro
  | dat d => obtain ⟨v, e, r⟩ := h; exact ⟨v, e, r.mono g.d⟩
  | own ds => obtain ⟨l, vs, e, h1, h2, r, ne⟩ := h; exact ⟨l, vs, e, g.h _ _ ne (.inr fun _ z => by cases z) h1, g.f _ (by rw [h1]; simp) h2, r.mono g.d, ne⟩
  | ow a ds => obtain ⟨l, vs, e, h1, hl, h2, r, ne⟩ := h; exact ⟨l, vs, e, g.h _ _ ne (.inr fun _ z => by cases z) h1, hl, g.f _ (by rw [h1]; simp) h2, r.mono g.d, ne⟩
  | odk ks ds => obtain ⟨l, vs, e, h1, hl, h2, r, ne⟩ := h; exact ⟨l, vs, e, g.h _ _ ne (.inr fun _ z => by cases z) h1, hl, g.f _ (by rw [h1]; simp) h2, r.mono g.d, ne⟩
  | slf a C dx ns ds => obtain ⟨l, vs, e, h1, hl, h2, r, ne⟩ := h; exact ⟨l, vs, e, g.h _ _ ne (.inr fun _ z => by cases z) h1, hl, g.f _ (by rw [h1]; simp) h2, r.mono g.d, ne⟩
  | pen => exact h
theorem SR.grow (s : SR K p Hd H σ Γ) (g : Grow p.a Hd H Hd' H') : SR K p Hd' H' σ Γ := ⟨s.len, fun i o k h1 h2 => (s.ok i o k h1 h2).grow g, s.ap⟩
theorem SR.get (s : SR K p Hd H σ Γ) {k : Sk} (h : Γ[i]? = some k) : ∃ o, σ[i]? = some o ∧ SkAt K p Hd H o k := by
  have hl : i < σ.length := by rw [s.len]; exact (List.getElem?_eq_some_iff.mp h).1
  exact ⟨σ[i], by simp [hl], s.ok i _ k (by simp [hl]) h⟩
theorem SR.dat (s : SR K p Hd H σ Γ) {d : D} (h : Γ[i]? = some (.dat d)) : ∃ v, σ[i]? = some (some v) ∧ Rep K Hd v d := by
  obtain ⟨o, e, v, rfl, r⟩ := s.get h
  exact ⟨v, e, r⟩
/-- a slot that owns nothing is stored -/
theorem SR.set (s : SR K p Hd H σ Γ) {o : Option V} {k : Sk} (h : SkAt K p Hd H o k) (n : k.isOwn = false) : SR K p Hd H (σ.set i o) (Γ.set i k) := by
  refine ⟨by rw [List.length_set, List.length_set]; exact s.len, fun j o' k' h1 h2 => ?_, fun j j' k1 k2 l ne h1 o1 h2 o2 e1 e2 => ?_⟩
  · by_cases e : i = j
    · subst e
      rw [List.getElem?_set_self'] at h1 h2
      cases q1 : σ[i]? with
      | none => rw [q1] at h1; simp at h1
      | some _ =>
        cases q2 : Γ[i]? with
        | none => rw [q2] at h2; simp at h2
        | some _ =>
          rw [q1] at h1; rw [q2] at h2
          simp at h1 h2
          subst h1; subst h2
          exact h
    · rw [List.getElem?_set_ne e] at h1 h2
      exact s.ok j _ _ h1 h2
  · have a1 : i ≠ j := fun e => by
      subst e
      rw [List.getElem?_set_self'] at h1
      cases q2 : Γ[i]? with
      | none => rw [q2] at h1; simp at h1
      | some _ => rw [q2] at h1; simp at h1; subst h1; rw [n] at o1; cases o1
    have a2 : i ≠ j' := fun e => by
      subst e
      rw [List.getElem?_set_self'] at h2
      cases q2 : Γ[i]? with
      | none => rw [q2] at h2; simp at h2
      | some _ => rw [q2] at h2; simp at h2; subst h2; rw [n] at o2; cases o2
    rw [List.getElem?_set_ne a1] at h1 e1
    rw [List.getElem?_set_ne a2] at h2 e2
    exact s.ap j j' k1 k2 l ne h1 o1 h2 o2 e1 e2
/-- slots are forgotten -/
theorem SR.weak (s : SR K p Hd H σ Γ) {σ' : St} {Γ' : List Sk} (hl : σ'.length = Γ'.length) (w : ∀ (i : Nat) k, Γ'[i]? = some k → k = .un ∨ (Γ[i]? = some k ∧ σ'[i]? = σ[i]?)) : SR K p Hd H σ' Γ' := by
  refine ⟨hl, fun i o k h1 h2 => ?_, fun i j k1 k2 l ne h1 o1 h2 o2 e1 => ?_⟩
  · rcases w i k h2 with rfl | ⟨e1, e2⟩
    · exact True.intro
    · exact s.ok i o k (e2 ▸ h1) e1
  · rcases w i k1 h1 with rfl | ⟨a1, a2⟩
    · cases o1
    · rcases w j k2 h2 with rfl | ⟨b1, b2⟩
      · cases o2
      · rw [b2]; rw [a2] at e1
        exact s.ap i j k1 k2 l ne a1 o1 b1 o2 e1
end
end DL
set_option maxRecDepth 100000
set_option maxHeartbeats 4000000
/-! DL2: what an expression gives: Ev (no slot changes), EvM (owned slots may change). -/
namespace DL
open PySem L2
variable [Tbl]

/-- where one stands: the text, the pen, what is wished of exceptions, which ones may leave -/
structure Ct where
  K : PySem.W.Frag
  p : Pn
  E : XK
  χ : Addr → List (Str × D) → Prop
def XAt (K : PySem.W.Frag) (Hd H : Hp) (dx : Addr) (fs : List (Str × D)) : Prop := ∃ xs : List V, Hd dx = some (.xd ((fs.map (·.1)).zip xs)) ∧ Reps K Hd xs (fs.map (·.2))
def Xs (c : Ct) (Hd H : Hp) : Prop := ∀ C dx fs Hd' H', Grow c.p.a Hd H Hd' H' → c.χ C fs → XAt c.K Hd' H' dx fs → c.E (.ref C) (some dx) H'
theorem Xs.grow {c : Ct} {Hd H Hd' H' : Hp} (x : Xs c Hd H) (g : Grow c.p.a Hd H Hd' H') : Xs c Hd' H' := fun C dx fs _ _ g' h k => x C dx fs _ _ (g.trans g') h k

def Ev (c : Ct) (te : TE) (Γ : List Sk) (m : Nat) (φ : D → Prop) : Prop := ∀ σ Hd H n, SR c.K c.p Hd H σ Γ → Same Hd H → PenO c.p n Hd H → n + m ≤ LIM → Xs c Hd H → ∀ Q : VK,
  (∀ v d Hd' H', Grow c.p.a Hd H Hd' H' → PenO c.p (n + m) Hd' H' → φ d → Rep c.K Hd' v d → Q v H') → te σ H Q
def EvB (c : Ct) (tt : TT) (Γ : List Sk) (m : Nat) (β : Bool → Prop) : Prop := ∀ σ Hd H n, SR c.K c.p Hd H σ Γ → Same Hd H → PenO c.p n Hd H → n + m ≤ LIM → Xs c Hd H → ∀ Q : Bool → Hp → Prop,
  (∀ b Hd' H', Grow c.p.a Hd H Hd' H' → PenO c.p (n + m) Hd' H' → β b → Q b H') → tt σ H Q
def EvA (c : Ct) (ta : TA) (Γ : List Sk) (m : Nat) (ψ : List D → Prop) : Prop := ∀ σ Hd H n, SR c.K c.p Hd H σ Γ → Same Hd H → PenO c.p n Hd H → n + m ≤ LIM → Xs c Hd H → ∀ Q : List V → Hp → Prop,
  (∀ vs ds Hd' H', Grow c.p.a Hd H Hd' H' → PenO c.p (n + m) Hd' H' → ψ ds → Reps c.K Hd' vs ds → Q vs H') → ta σ H Q
/-- an optional part of a slice -/
def EvO (c : Ct) (to : TO) (Γ : List Sk) (m : Nat) (ω : Option Int → Prop) : Prop := ∀ σ Hd H n, SR c.K c.p Hd H σ Γ → Same Hd H → PenO c.p n Hd H → n + m ≤ LIM → Xs c Hd H → ∀ Q : Option Int → Hp → Prop,
  (∀ o Hd' H', Grow c.p.a Hd H Hd' H' → PenO c.p (n + m) Hd' H' → ω o → Q o H') → to σ H Q
/-- operations by values -/
def Op2 (c : Ct) (r : R2) (a b : D) (φ : D → Prop) : Prop := ∀ x y Hd H, Same Hd H → Rep c.K Hd x a → Rep c.K Hd y b → ∀ Q : VK, (∀ v d Hd' H', Grow none Hd H Hd' H' → φ d → Rep c.K Hd' v d → Q v H') → r x y H Q
def Op1 (c : Ct) (r : V → Hp → VK → Prop) (a : D) (φ : D → Prop) : Prop := ∀ x Hd H, Same Hd H → Rep c.K Hd x a → ∀ Q : VK, (∀ v d Hd' H', Grow none Hd H Hd' H' → φ d → Rep c.K Hd' v d → Q v H') → r x H Q
def OpN (c : Ct) (r : List V → Hp → VK → Prop) (as : List D) (φ : D → Prop) : Prop := ∀ xs Hd H, Same Hd H → Reps c.K Hd xs as → ∀ Q : VK, (∀ v d Hd' H', Grow none Hd H Hd' H' → φ d → Rep c.K Hd' v d → Q v H') → r xs H Q

section
variable {c : Ct} {Γ : List Sk} {m m1 m2 m3 : Nat} {φ ψ φ1 φ2 φ3 : D → Prop} {β β1 β2 : Bool → Prop} {ta tb te tx : TE} {t u : TT} {r : R2}

theorem Ev.imp (h : Ev c te Γ m φ) (e : ∀ d, φ d → ψ d) : Ev c te Γ m ψ := fun σ Hd H n s sa pe l x Q q => h σ Hd H n s sa pe l x Q fun v d Hd' H' g pe' f => q v d Hd' H' g pe' (e d f)
theorem Ev.more (h : Ev c te Γ m φ) (e : m ≤ m1) : Ev c te Γ m1 φ := fun σ Hd H n s sa pe l x Q q => h σ Hd H n s sa pe (by omega) x Q fun v d Hd' H' g pe' f => q v d Hd' H' g (pe'.more (by omega)) f
theorem EvB.imp (h : EvB c t Γ m β) (e : ∀ d, β d → β1 d) : EvB c t Γ m β1 := fun σ Hd H n s sa pe l x Q q => h σ Hd H n s sa pe l x Q fun v Hd' H' g pe' f => q v Hd' H' g pe' (e v f)
theorem EvB.more (h : EvB c t Γ m β) (e : m ≤ m1) : EvB c t Γ m1 β := fun σ Hd H n s sa pe l x Q q => h σ Hd H n s sa pe (by omega) x Q fun v Hd' H' g pe' f => q v Hd' H' g (pe'.more (by omega)) f
theorem EvA.imp {ta : TA} {ψ1 ψ2 : List D → Prop} (h : EvA c ta Γ m ψ1) (e : ∀ d, ψ1 d → ψ2 d) : EvA c ta Γ m ψ2 := fun σ Hd H n s sa pe l x Q q => h σ Hd H n s sa pe l x Q fun v d Hd' H' g pe' f => q v d Hd' H' g pe' (e d f)
theorem EvA.more {ta : TA} {ψ1 : List D → Prop} (h : EvA c ta Γ m ψ1) (e : m ≤ m1) : EvA c ta Γ m1 ψ1 := fun σ Hd H n s sa pe l x Q q => h σ Hd H n s sa pe (by omega) x Q fun v d Hd' H' g pe' f => q v d Hd' H' g (pe'.more (by omega)) f
theorem Ev.to {d e : D} (h : Ev c te Γ m (· = d)) (q : d = e) : Ev c te Γ m (· = e) := q ▸ h
theorem EvB.to {d e : Bool} (h : EvB c t Γ m (· = d)) (q : d = e) : EvB c t Γ m (· = e) := q ▸ h

/-! names, constants -/
theorem ev_var {i : Nat} {d : D} (h : Γ[i]? = some (.dat d)) : Ev c (tVar i) Γ 0 (· = d) := fun σ Hd H n s sa pe l x Q q => by
  obtain ⟨v, e, r⟩ := s.dat h
  exact ⟨v, e, q v d Hd H (.refl sa) pe rfl r⟩
theorem ev_int {i : Int} : Ev c (tC (.int i)) Γ 0 (· = .int i) := fun σ Hd H n s sa pe l x Q q => q _ _ Hd H (.refl sa) pe rfl (.int i)
theorem ev_bl {i : Bool} : Ev c (tC (.bl i)) Γ 0 (· = .bl i) := fun σ Hd H n s sa pe l x Q q => q _ _ Hd H (.refl sa) pe rfl (.bl i)
theorem ev_str {i : Str} : Ev c (tC (.str i)) Γ 0 (· = .str i) := fun σ Hd H n s sa pe l x Q q => q _ _ Hd H (.refl sa) pe rfl (.str i)
theorem ev_non : Ev c (tC .non) Γ 0 (· = .non) := fun σ Hd H n s sa pe l x Q q => q _ _ Hd H (.refl sa) pe rfl .non
/-- a tuple of the module -/
theorem ev_ktup {a : Addr} {xs : List V} {ds : List D} (h : ∀ H, SqT c.K H a xs) (r : ∀ H, Reps c.K H xs ds) : Ev c (tC (.ref a)) Γ 0 (· = .tup ds) := fun σ Hd H n s sa pe l x Q q => q _ _ Hd H (.refl sa) pe rfl (.tup (h Hd) (r Hd))

/-! operations -/
theorem ev_op (ha : Ev c ta Γ m1 φ1) (hb : Ev c tb Γ m2 φ2) (h : ∀ a b, φ1 a → φ2 b → Op2 c r a b φ) : Ev c (tOp r ta tb) Γ (m1 + m2) φ := fun σ Hd H n s sa pe l x Q q =>
  ha σ Hd H n s sa pe (by omega) x _ fun v a Hd1 H1 g1 pe1 f1 r1 => hb σ Hd1 H1 (n + m1) (s.grow g1) g1.s pe1 (by omega) (x.grow g1) _ fun w b Hd2 H2 g2 pe2 f2 r2 =>
    h a b f1 f2 v w Hd2 H2 g2.s (r1.mono g2.d) r2 Q fun z d Hd3 H3 g3 f3 r3 => q z d Hd3 H3 ((g1.trans g2).trans g3.up) (by rw [← Nat.add_assoc]; exact pe2.grow g3) f3 r3
theorem ev_un {r : V → Hp → VK → Prop} (ha : Ev c ta Γ m φ1) (h : ∀ a, φ1 a → Op1 c r a φ) : Ev c (tUn r ta) Γ m φ := fun σ Hd H n s sa pe l x Q q =>
  ha σ Hd H n s sa pe l x _ fun v a Hd1 H1 g1 pe1 f1 r1 => h a f1 v Hd1 H1 g1.s r1 Q fun z d Hd3 H3 g3 f3 r3 => q z d Hd3 H3 (g1.trans g3.up) (pe1.grow g3) f3 r3
/-- exact forms -/
theorem ev_op_ {a b d : D} (ha : Ev c ta Γ m1 (· = a)) (hb : Ev c tb Γ m2 (· = b)) (h : Op2 c r a b (· = d)) : Ev c (tOp r ta tb) Γ (m1 + m2) (· = d) := ev_op ha hb fun _ _ e1 e2 => by subst e1; subst e2; exact h

/-! arguments, displays -/
theorem ea_nil : EvA c tNil Γ 0 (· = []) := fun σ Hd H n s sa pe l x Q q => q [] [] Hd H (.refl sa) pe rfl .nil
theorem ea_cons {tr : TA} {ψ1 : List D → Prop} (h : Ev c ta Γ m1 φ1) (hr : EvA c tr Γ m2 ψ1) : EvA c (tCons ta tr) Γ (m1 + m2) (fun ds => ∃ d es, ds = d :: es ∧ φ1 d ∧ ψ1 es) := fun σ Hd H n s sa pe l x Q q =>
  h σ Hd H n s sa pe (by omega) x _ fun v a Hd1 H1 g1 pe1 f1 r1 => hr σ Hd1 H1 (n + m1) (s.grow g1) g1.s pe1 (by omega) (x.grow g1) _ fun w b Hd2 H2 g2 pe2 f2 r2 =>
    q (v :: w) (a :: b) Hd2 H2 (g1.trans g2) (by rw [← Nat.add_assoc]; exact pe2) ⟨a, b, rfl, f1, f2⟩ (.cons (r1.mono g2.d) r2)
theorem ea_cons_ {tr : TA} {d : D} {ds : List D} (h : Ev c ta Γ m1 (· = d)) (hr : EvA c tr Γ m2 (· = ds)) : EvA c (tCons ta tr) Γ (m1 + m2) (· = d :: ds) :=
  (ea_cons h hr).imp fun _ ⟨a, b, e, e1, e2⟩ => by rw [e, e1, e2]
theorem ev_tup {ta : TA} {ψ1 : List D → Prop} (h : EvA c ta Γ m ψ1) (hl : ∀ ds, ψ1 ds → ds.length ≤ 1000) : Ev c (tTup ta) Γ m (fun d => ∃ ds, d = .tup ds ∧ ψ1 ds) := fun σ Hd H n s sa pe l x Q q =>
  h σ Hd H n s sa pe l x _ fun vs ds Hd1 H1 g1 pe1 f1 r1 => ⟨Nat.le_of_lt (small1000 (by rw [r1.length]; exact hl ds f1)), fun a ha => by
    have g := Grow.new (p := none) (o := HO.tup vs) g1.s ha
    exact q (.ref a) (.tup ds) _ _ (g1.trans g.up) (pe1.grow g) ⟨ds, rfl, f1⟩ (.tup (SqT.of upd_same) (r1.mono g.d))⟩
theorem ev_tup_ {ta : TA} {ds : List D} (h : EvA c ta Γ m (· = ds)) (hl : ds.length ≤ 1000 := by first | decide | simp) : Ev c (tTup ta) Γ m (· = .tup ds) := (ev_tup h fun _ e => by rw [e]; exact hl).imp fun _ ⟨ds, e, e2⟩ => by rw [e, e2]
theorem ev_lst {ta : TA} {ψ1 : List D → Prop} (h : EvA c ta Γ m ψ1) (hl : ∀ ds, ψ1 ds → ds.length ≤ 1000) : Ev c (tLst ta) Γ m (fun d => ∃ ds, d = .lst ds ∧ ψ1 ds) := fun σ Hd H n s sa pe l x Q q =>
  h σ Hd H n s sa pe l x _ fun vs ds Hd1 H1 g1 pe1 f1 r1 => ⟨Nat.le_of_lt (small1000 (by rw [r1.length]; exact hl ds f1)), fun a ha => by
    have g := Grow.new (p := none) (o := HO.lst vs) g1.s ha
    exact q (.ref a) (.lst ds) _ _ (g1.trans g.up) (pe1.grow g) ⟨ds, rfl, f1⟩ (.lst upd_same (r1.mono g.d))⟩
theorem ev_lst_ {ta : TA} {ds : List D} (h : EvA c ta Γ m (· = ds)) (hl : ds.length ≤ 1000 := by first | decide | simp) : Ev c (tLst ta) Γ m (· = .lst ds) := (ev_lst h fun _ e => by rw [e]; exact hl).imp fun _ ⟨ds, e, e2⟩ => by rw [e, e2]

/-! tests -/
theorem eb_test (h : Ev c te Γ m (fun d => ∃ b, d = .bl b ∧ β b)) : EvB c (tTest te) Γ m β := fun σ Hd H n s sa pe l x Q q =>
  h σ Hd H n s sa pe l x _ fun v d Hd1 H1 g1 pe1 ⟨b, e, f⟩ r1 => by subst e; cases r1; exact ⟨b, rfl, q b Hd1 H1 g1 pe1 f⟩
theorem eb_test_ {b : Bool} (h : Ev c te Γ m (· = .bl b)) : EvB c (tTest te) Γ m (· = b) := eb_test (h.imp fun _ e => ⟨b, e, rfl⟩)
theorem eb_B (h : Ev c te Γ m (fun d => ∃ b, d = .bl b ∧ β b)) : EvB c (tB te) Γ m β := fun σ Hd H n s sa pe l x Q q =>
  h σ Hd H n s sa pe l x _ fun v d Hd1 H1 g1 pe1 ⟨b, e, f⟩ r1 => by subst e; cases r1; exact ⟨b, rfl, q b Hd1 H1 g1 pe1 f⟩
theorem eb_B_ {b : Bool} (h : Ev c te Γ m (· = .bl b)) : EvB c (tB te) Γ m (· = b) := eb_B (h.imp fun _ e => ⟨b, e, rfl⟩)
theorem eb_not (h : EvB c t Γ m β1) : EvB c (tNot t) Γ m (fun b => β1 (!b)) := fun σ Hd H n s sa pe l x Q q =>
  h σ Hd H n s sa pe l x _ fun b Hd1 H1 g1 pe1 f => q (!b) Hd1 H1 g1 pe1 (by show β1 (!(!b)); rw [Bool.not_not]; exact f)
theorem eb_not_ {b : Bool} (h : EvB c t Γ m (· = b)) : EvB c (tNot t) Γ m (· = !b) := (eb_not h).imp fun d e => by rw [← e, Bool.not_not]
theorem eb_and (h : EvB c t Γ m1 β1) (h2 : β1 true → EvB c u Γ m2 β) (h3 : β1 false → β false) : EvB c (tAnd t u) Γ (m1 + m2) β := fun σ Hd H n s sa pe l x Q q =>
  h σ Hd H n s sa pe (by omega) x _ fun b Hd1 H1 g1 pe1 f => by
    cases b with
    | true =>
      refine h2 f σ Hd1 H1 (n + m1) (s.grow g1) g1.s pe1 (by omega) (x.grow g1) _ fun b Hd2 H2 g2 pe2 f2 => ?_
      exact q b Hd2 H2 (g1.trans g2) (by rw [← Nat.add_assoc]; exact pe2) f2
    | false => exact q false Hd1 H1 g1 (pe1.more (by omega)) (h3 f)
theorem eb_or (h : EvB c t Γ m1 β1) (h2 : β1 false → EvB c u Γ m2 β) (h3 : β1 true → β true) : EvB c (tOr t u) Γ (m1 + m2) β := fun σ Hd H n s sa pe l x Q q =>
  h σ Hd H n s sa pe (by omega) x _ fun b Hd1 H1 g1 pe1 f => by
    cases b with
    | false =>
      refine h2 f σ Hd1 H1 (n + m1) (s.grow g1) g1.s pe1 (by omega) (x.grow g1) _ fun b Hd2 H2 g2 pe2 f2 => ?_
      exact q b Hd2 H2 (g1.trans g2) (by rw [← Nat.add_assoc]; exact pe2) f2
    | true => exact q true Hd1 H1 g1 (pe1.more (by omega)) (h3 f)
theorem eb_and_ {a b : Bool} (h : EvB c t Γ m1 (· = a)) (h2 : a = true → EvB c u Γ m2 (· = b)) : EvB c (tAnd t u) Γ (m1 + m2) (· = (a && b)) := eb_and h (fun e => (h2 e.symm).imp fun d q => by rw [q, ← e]; rfl) fun e => by rw [← e]; rfl
theorem eb_or_ {a b : Bool} (h : EvB c t Γ m1 (· = a)) (h2 : a = false → EvB c u Γ m2 (· = b)) : EvB c (tOr t u) Γ (m1 + m2) (· = (a || b)) := eb_or h (fun e => (h2 e.symm).imp fun d q => by rw [q, ← e]; rfl) fun e => by rw [← e]; rfl
/-- .. as values -/
theorem ev_andV (h : Ev c ta Γ m1 (fun d => ∃ b, d = .bl b ∧ β b)) (h2 : β true → Ev c tb Γ m2 φ) (h3 : β false → φ (.bl false)) : Ev c (tAndV ta tb) Γ (m1 + m2) φ := fun σ Hd H n s sa pe l x Q q =>
  h σ Hd H n s sa pe (by omega) x _ fun v d Hd1 H1 g1 pe1 ⟨b, e, f⟩ r1 => by
    subst e; cases r1
    refine ⟨b, rfl, ?_⟩
    cases b with
    | true =>
      refine h2 f σ Hd1 H1 (n + m1) (s.grow g1) g1.s pe1 (by omega) (x.grow g1) _ fun v d Hd2 H2 g2 pe2 f2 r2 => ?_
      exact q v d Hd2 H2 (g1.trans g2) (by rw [← Nat.add_assoc]; exact pe2) f2 r2
    | false => exact q _ _ Hd1 H1 g1 (pe1.more (by omega)) (h3 f) (.bl false)
theorem ev_orV (h : Ev c ta Γ m1 (fun d => ∃ b, d = .bl b ∧ β b)) (h2 : β false → Ev c tb Γ m2 φ) (h3 : β true → φ (.bl true)) : Ev c (tOrV ta tb) Γ (m1 + m2) φ := fun σ Hd H n s sa pe l x Q q =>
  h σ Hd H n s sa pe (by omega) x _ fun v d Hd1 H1 g1 pe1 ⟨b, e, f⟩ r1 => by
    subst e; cases r1
    refine ⟨b, rfl, ?_⟩
    cases b with
    | false =>
      refine h2 f σ Hd1 H1 (n + m1) (s.grow g1) g1.s pe1 (by omega) (x.grow g1) _ fun v d Hd2 H2 g2 pe2 f2 r2 => ?_
      exact q v d Hd2 H2 (g1.trans g2) (by rw [← Nat.add_assoc]; exact pe2) f2 r2
    | true => exact q _ _ Hd1 H1 g1 (pe1.more (by omega)) (h3 f) (.bl true)
theorem ev_andV_ {a b : Bool} (h : Ev c ta Γ m1 (· = .bl a)) (h2 : a = true → Ev c tb Γ m2 (· = .bl b)) : Ev c (tAndV ta tb) Γ (m1 + m2) (· = .bl (a && b)) :=
  ev_andV (β := (· = a)) (h.imp fun _ e => ⟨a, e, rfl⟩) (fun e => (h2 e.symm).imp fun d q => by rw [q, ← e]; rfl) fun e => by rw [← e]; rfl
theorem ev_orV_ {a b : Bool} (h : Ev c ta Γ m1 (· = .bl a)) (h2 : a = false → Ev c tb Γ m2 (· = .bl b)) : Ev c (tOrV ta tb) Γ (m1 + m2) (· = .bl (a || b)) :=
  ev_orV (β := (· = a)) (h.imp fun _ e => ⟨a, e, rfl⟩) (fun e => (h2 e.symm).imp fun d q => by rw [q, ← e]; rfl) fun e => by rw [← e]; rfl
theorem ev_notV_ {a : Bool} (h : Ev c ta Γ m (· = .bl a)) : Ev c (tNotV ta) Γ m (· = .bl (!a)) := fun σ Hd H n s sa pe l x Q q =>
  h σ Hd H n s sa pe l x _ fun v d Hd1 H1 g1 pe1 e r1 => by subst e; cases r1; exact ⟨a, rfl, q _ _ Hd1 H1 g1 pe1 rfl (.bl _)⟩
theorem ev_if (h : EvB c t Γ m1 β) (h1 : β true → Ev c ta Γ m2 φ) (h2 : β false → Ev c tb Γ m2 φ) : Ev c (tIf t ta tb) Γ (m1 + m2) φ := fun σ Hd H n s sa pe l x Q q =>
  h σ Hd H n s sa pe (by omega) x _ fun b Hd1 H1 g1 pe1 f => by
    cases b with
    | true =>
      refine h1 f σ Hd1 H1 (n + m1) (s.grow g1) g1.s pe1 (by omega) (x.grow g1) _ fun v d Hd2 H2 g2 pe2 f2 r2 => ?_
      exact q v d Hd2 H2 (g1.trans g2) (by rw [← Nat.add_assoc]; exact pe2) f2 r2
    | false =>
      refine h2 f σ Hd1 H1 (n + m1) (s.grow g1) g1.s pe1 (by omega) (x.grow g1) _ fun v d Hd2 H2 g2 pe2 f2 r2 => ?_
      exact q v d Hd2 H2 (g1.trans g2) (by rw [← Nat.add_assoc]; exact pe2) f2 r2
theorem ev_if_ {b : Bool} {d e : D} (h : EvB c t Γ m1 (· = b)) (h1 : b = true → Ev c ta Γ m2 (· = d)) (h2 : b = false → Ev c tb Γ m2 (· = e)) : Ev c (tIf t ta tb) Γ (m1 + m2) (· = if b = true then d else e) :=
  ev_if h (fun q => (h1 q.symm).imp fun _ z => by rw [z, ← q]; rfl) (fun q => (h2 q.symm).imp fun _ z => by rw [z, ← q]; rfl)

/-! slices -/
theorem eo_none : EvO c tNoPart Γ 0 (· = none) := fun σ Hd H n s sa pe l x Q q => q none Hd H (.refl sa) pe rfl
theorem eo_some {i : Int} (h : Ev c te Γ m (· = .int i)) : EvO c (tPart te) Γ m (· = some i) := fun σ Hd H n s sa pe l x Q q =>
  h σ Hd H n s sa pe l x _ fun v d Hd1 H1 g1 pe1 e r1 => by subst e; cases r1; exact ⟨i, rfl, q _ Hd1 H1 g1 pe1 rfl⟩
theorem eo_someG {ι : Int → Prop} (h : Ev c te Γ m (fun d => ∃ i, d = .int i ∧ ι i)) : EvO c (tPart te) Γ m (fun o => ∃ i, o = some i ∧ ι i) := fun σ Hd H n s sa pe l x Q q =>
  h σ Hd H n s sa pe l x _ fun v d Hd1 H1 g1 pe1 ⟨i, e, f⟩ r1 => by subst e; cases r1; exact ⟨i, rfl, q _ Hd1 H1 g1 pe1 ⟨i, rfl, f⟩⟩
end
end DL
set_option maxRecDepth 100000
set_option maxHeartbeats 4000000
/-! DL3: what is walked, comprehensions, promises and calls. -/
namespace DL
open PySem L2
variable [Tbl]

/-! ### slots by several -/
def setD (Γ : List Sk) : List (Nat × D) → List Sk
  | [] => Γ
  | (i, d) :: ps => setD (Γ.set i (.dat d)) ps
def wipeG (Γ : List Sk) : List Nat → List Sk
  | [] => Γ
  | v :: vs => (wipeG Γ vs).set v .un
theorem wipeG_length (Γ : List Sk) : ∀ vs, (wipeG Γ vs).length = Γ.length
  | [] => rfl
  | v :: vs => by rw [wipeG, List.length_set, wipeG_length Γ vs]
theorem wipe_at (σ : St) (vs : List Nat) (j : Nat) : (wipe σ vs)[j]? = if j ∈ vs then σ[j]?.map (fun _ => none) else σ[j]? := by
  induction vs with
  | nil => rw [if_neg (by simp)]; rfl
  | cons v vs ih =>
    rw [wipe]
    by_cases e : v = j
    · subst e
      rw [if_pos List.mem_cons_self]
      by_cases h : v < σ.length
      · rw [List.getElem?_set_self (by rw [wipe_length]; exact h), List.getElem?_eq_getElem h]; rfl
      · rw [List.getElem?_eq_none (by rw [List.length_set, wipe_length]; omega), List.getElem?_eq_none (by omega)]; rfl
    · rw [List.getElem?_set_ne e, ih]
      have e' : ¬ j = v := fun z => e z.symm
      by_cases h : j ∈ vs
      · rw [if_pos h, if_pos (List.mem_cons_of_mem _ h)]
      · rw [if_neg h, if_neg (by simp [h, e'])]
theorem wipeG_at (Γ : List Sk) (vs : List Nat) (j : Nat) : (wipeG Γ vs)[j]? = if j ∈ vs then Γ[j]?.map (fun _ => .un) else Γ[j]? := by
  induction vs with
  | nil => rw [if_neg (by simp)]; rfl
  | cons v vs ih =>
    rw [wipeG]
    by_cases e : v = j
    · subst e
      rw [if_pos List.mem_cons_self]
      by_cases h : v < Γ.length
      · rw [List.getElem?_set_self (by rw [wipeG_length]; exact h), List.getElem?_eq_getElem h]; rfl
      · rw [List.getElem?_eq_none (by rw [List.length_set, wipeG_length]; omega), List.getElem?_eq_none (by omega)]; rfl
    · rw [List.getElem?_set_ne e, ih]
      have e' : ¬ j = v := fun z => e z.symm
      by_cases h : j ∈ vs
      · rw [if_pos h, if_pos (List.mem_cons_of_mem _ h)]
      · rw [if_neg h, if_neg (by simp [h, e'])]
theorem SR.wipe {K : PySem.W.Frag} {p : Pn} {Hd H : Hp} {σ : St} {Γ : List Sk} (s : SR K p Hd H σ Γ) (vs : List Nat) : SR K p Hd H (L2.wipe σ vs) (wipeG Γ vs) :=
  s.weak (by rw [wipe_length, wipeG_length, s.len]) fun i k h => by
    rw [wipeG_at] at h
    rw [wipe_at]
    by_cases e : i ∈ vs
    · rw [if_pos e] at h
      cases q : Γ[i]? with
      | none => rw [q] at h; simp at h
      | some _ => rw [q] at h; simp at h; exact .inl h.symm
    · rw [if_neg e] at h ⊢
      exact .inr ⟨h, rfl⟩
theorem wipe_eq {σ σ' : St} {vs is : List Nat} (h : ∀ j, j ∉ is → σ'[j]? = (wipe σ vs)[j]?) (hl : σ'.length = σ.length) (hs : ∀ j ∈ is, j ∈ vs) : wipe σ' vs = wipe σ vs := by
  apply List.ext_getElem?
  intro j
  rw [wipe_at, wipe_at]
  by_cases e : j ∈ vs
  · rw [if_pos e, if_pos e]
    by_cases q : j < σ.length
    · rw [List.getElem?_eq_getElem q, List.getElem?_eq_getElem (by rw [hl]; exact q)]; rfl
    · rw [List.getElem?_eq_none (show σ'.length ≤ j by omega), List.getElem?_eq_none (show σ.length ≤ j by omega)]
  · rw [if_neg e, if_neg e, h j (fun z => e (hs j z)), wipe_at, if_neg e]

/-! ### what is walked -/
def ItD (K : PySem.W.Frag) (Hd : Hp) (J : It) (ds : List D) : Prop := ∀ Hd' H', Same Hd Hd' → Same Hd' H' →
  (∀ i, i < ds.length → J.go i H') ∧ (∀ i, ds.length ≤ i → J.stop i H') ∧ (∀ i x H'', J.yld i H' x H'' → ∀ d, ds[i]? = some d → ∃ Hd'', Grow none Hd' H' Hd'' H'' ∧ Rep K Hd'' x d)
theorem ItD.mono {K : PySem.W.Frag} {Hd Hd' : Hp} {J : It} {ds : List D} (h : ItD K Hd J ds) (s : Same Hd Hd') : ItD K Hd' J ds := fun a b e1 e2 => h a b (s.trans e1) e2
def EvI (c : Ct) (wi : TI) (Γ : List Sk) (m : Nat) (ψ : List D → Prop) : Prop := ∀ σ Hd H n, SR c.K c.p Hd H σ Γ → Same Hd H → PenO c.p n Hd H → n + m ≤ LIM → Xs c Hd H → ∀ R : It → Hp → Prop,
  (∀ J ds Hd' H', Grow c.p.a Hd H Hd' H' → PenO c.p (n + m) Hd' H' → ψ ds → ItD c.K Hd' J ds → R J H') → wi σ H R
theorem EvI.imp {c : Ct} {wi : TI} {Γ : List Sk} {m : Nat} {ψ ψ' : List D → Prop} (h : EvI c wi Γ m ψ) (e : ∀ ds, ψ ds → ψ' ds) : EvI c wi Γ m ψ' := fun σ Hd H n s sa pe l x R q => h σ Hd H n s sa pe l x R fun J ds Hd' H' g pe' f => q J ds Hd' H' g pe' (e ds f)
theorem itd_list {K : PySem.W.Frag} {Hd : Hp} {a : Addr} {xs : List V} {ds : List D} (h : Hd a = some (.lst xs)) (r : Reps K Hd xs ds) : ItD K Hd (Itl K a) ds := fun Hd' H' e1 e2 => by
  have h' : SqL K H' a xs := SqL.of (e2 _ _ (e1 _ _ h))
  have hl := r.length
  refine ⟨fun i hi => ⟨xs, xs[i], h', by simp [hl, hi]⟩, fun i hi => ⟨xs, h', by omega⟩, fun i x H'' y d hd => ?_⟩
  obtain ⟨e, y⟩ := y
  subst e
  have q := y xs h'
  obtain ⟨v, q1, q2⟩ := (r.mono e1).get hd
  rw [q] at q1; cases q1
  exact ⟨Hd', .refl e2, q2⟩
theorem itd_tup {K : PySem.W.Frag} {Hd : Hp} {a : Addr} {xs : List V} {ds : List D} (h : SqT K Hd a xs) (r : Reps K Hd xs ds) : ItD K Hd (Itt K a) ds := fun Hd' H' e1 e2 => by
  have h' : SqT K H' a xs := same_sqt (e1.trans e2) h
  have hl := r.length
  refine ⟨fun i hi => ⟨xs, xs[i], h', by simp [hl, hi]⟩, fun i hi => ⟨xs, h', by omega⟩, fun i x H'' y d hd => ?_⟩
  obtain ⟨e, y⟩ := y
  subst e
  have q := y xs h'
  obtain ⟨v, q1, q2⟩ := (r.mono e1).get hd
  rw [q] at q1; cases q1
  exact ⟨Hd', .refl e2, q2⟩
def signs (x : Str) : List D := x.cps.toList.map fun c => .str ⟨#[c]⟩
theorem itd_str {K : PySem.W.Frag} {Hd : Hp} (x : Str) : ItD K Hd (Its x) (signs x) := fun Hd' H' e1 e2 => by
  have hl : (signs x).length = x.cps.size := by simp [signs]
  refine ⟨fun i hi => by show i < x.cps.size; omega, fun i hi => by show x.cps.size ≤ i; omega, fun i v H'' y d hd => ?_⟩
  obtain ⟨e, q, h1, h2⟩ := y
  subst e; subst h2
  have z : d = .str ⟨#[q]⟩ := by
    unfold signs at hd
    rw [List.getElem?_map, Array.getElem?_toList, h1] at hd
    simpa using hd.symm
  subst z
  exact ⟨Hd', .refl e2, .str _⟩
def rngD (lo : Int) (n : Nat) : List D := (List.range n).map fun (i : Nat) => .int (lo + (i : Int))
theorem itd_rng {K : PySem.W.Frag} {Hd : Hp} (lo : Int) (n : Nat) : ItD K Hd (Itr lo n) (rngD lo n) := fun Hd' H' e1 e2 => by
  have hl : (rngD lo n).length = n := by simp [rngD]
  refine ⟨fun i hi => by show i < n; omega, fun i hi => by show n ≤ i; omega, fun i v H'' y d hd => ?_⟩
  obtain ⟨e, h2⟩ := y
  subst e; subst h2
  have z : d = .int (lo + (i : Int)) := by
    unfold rngD at hd
    rw [List.getElem?_map] at hd
    by_cases q : i < n
    · rw [List.getElem?_range q] at hd; simpa using hd.symm
    · rw [List.getElem?_eq_none (by simp; omega)] at hd; simp at hd
  subst z
  exact ⟨Hd', .refl e2, .int _⟩
def enumD (ds : List D) : List D := ds.zipIdx.map fun p => .tup [.int (p.2 : Int), p.1]
theorem enumD_get {ds : List D} {i : Nat} {d : D} (h : (enumD ds)[i]? = some d) : ∃ e, ds[i]? = some e ∧ d = .tup [.int (i : Int), e] := by
  unfold enumD at h
  rw [List.getElem?_map, List.getElem?_zipIdx] at h
  cases q : ds[i]? with
  | none => rw [q] at h; simp at h
  | some e => rw [q] at h; simp at h; exact ⟨e, rfl, h.symm⟩
theorem itd_enum {K : PySem.W.Frag} {Hd : Hp} {a : Addr} {xs : List V} {ds : List D} (h : Hd a = some (.lst xs)) (r : Reps K Hd xs ds) : ItD K Hd (Ite K a) (enumD ds) := fun Hd' H' e1 e2 => by
  have h' : SqL K H' a xs := SqL.of (e2 _ _ (e1 _ _ h))
  have hl := r.length
  have hl2 : (enumD ds).length = ds.length := by simp [enumD]
  refine ⟨fun i hi => ⟨xs, xs[i]'(by omega), h', List.getElem?_eq_getElem _⟩, fun i hi => ⟨xs, h', by omega⟩, fun i v H'' y d hd => ?_⟩
  obtain ⟨T, x, e, hT, eH, y⟩ := y
  subst e; subst eH
  obtain ⟨e, q1, q2⟩ := enumD_get hd
  subst q2
  obtain ⟨w, q3, q4⟩ := (r.mono e1).get q1
  have q := y xs h'
  rw [q] at q3; cases q3
  have g := Grow.new (p := none) (o := HO.tup [.int (i : Nat), x]) e2 hT
  exact ⟨_, g, .tup (SqT.of upd_same) (.cons (.int _) (.cons (q4.mono g.d) .nil))⟩
def zipD (ds es : List D) : List D := (ds.zip es).map fun p => .tup [p.1, p.2]
theorem zipD_get {ds es : List D} {i : Nat} {d : D} (h : (zipD ds es)[i]? = some d) : ∃ a b, ds[i]? = some a ∧ es[i]? = some b ∧ d = .tup [a, b] := by
  unfold zipD at h
  rw [List.getElem?_map] at h
  cases q : (ds.zip es)[i]? with
  | none => rw [q] at h; simp at h
  | some e =>
    rw [q] at h; simp at h
    rw [List.getElem?_zip_eq_some] at q
    exact ⟨_, _, q.1, q.2, h.symm⟩
theorem itd_zip {K : PySem.W.Frag} {Hd : Hp} {a b : Addr} {xs ys : List V} {ds es : List D} (h : Hd a = some (.lst xs)) (r : Reps K Hd xs ds) (h2 : Hd b = some (.lst ys)) (r2 : Reps K Hd ys es) : ItD K Hd (Itz K a b) (zipD ds es) := fun Hd' H' e1 e2 => by
  have h' : SqL K H' a xs := SqL.of (e2 _ _ (e1 _ _ h))
  have h2' : SqL K H' b ys := SqL.of (e2 _ _ (e1 _ _ h2))
  have hl := r.length
  have hl2 := r2.length
  have hz : (zipD ds es).length = min ds.length es.length := by simp [zipD]
  refine ⟨fun i hi => ⟨xs, ys, xs[i]'(by omega), ys[i]'(by omega), h', h2', List.getElem?_eq_getElem _, List.getElem?_eq_getElem _⟩, fun i hi => ⟨xs, ys, h', h2', by omega⟩, fun i v H'' y d hd => ?_⟩
  obtain ⟨T, x, x2, e, hT, eH, y, y2⟩ := y
  subst e; subst eH
  obtain ⟨u1, u2, q1, p1, q2⟩ := zipD_get hd
  subst q2
  obtain ⟨w, q3, q4⟩ := (r.mono e1).get q1
  obtain ⟨w2, p3, p4⟩ := (r2.mono e1).get p1
  have q := y xs h'
  have q' := y2 ys h2'
  rw [q] at q3; cases q3
  rw [q'] at p3; cases p3
  have g := Grow.new (p := none) (o := HO.tup [x, x2]) e2 hT
  exact ⟨_, g, .tup (SqT.of upd_same) (.cons (q4.mono g.d) (.cons (p4.mono g.d) .nil))⟩

section
variable {c : Ct} {Γ : List Sk} {m m1 m2 : Nat} {φ : D → Prop} {te : TE} {ta : TA}
/-- over a list, a tuple, a text, by the value -/
def iSeq (K : PySem.W.Frag) (tl : TE) : TI := fun σ H R => tl σ H fun x H1 => (∃ a, x = .ref a ∧ (∃ xs, SqL K H1 a xs) ∧ R (Itl K a) H1) ∨ (∃ a, x = .ref a ∧ (∃ xs, SqT K H1 a xs) ∧ R (Itt K a) H1) ∨ ∃ z, x = .str z ∧ R (Its z) H1
theorem pi_seq {X : Cx} {tg l : Expr} {tl : TE} (hl : PE X l tl) : PI X tg l (iSeq X.K tl) := by
  refine ⟨fun pins s0 σ0 Hp0 Rr Iv hw => ?_⟩
  refine thn (hl.run pins s0 σ0 Hp0 _ Iv hw) fun u st hh => ?_
  obtain ⟨x, Hx, Ix, rx, qx⟩ := hh
  rcases qx with ⟨a, ex, ⟨xs, hxs⟩, qx⟩ | ⟨a, ex, ⟨xs, hxs⟩, qx⟩ | ⟨z, ex, qx⟩
  · subst ex; cases rx
    obtain ⟨us, _, pl, _⟩ := Ix.list hxs
    exact wpAny_pyIter_list pl.isList (pi_one (tk := st.toks) Ix _ (turn_list a _) ⟨_, Heap.get?_push_size _ rfl, rfl, rfl⟩ qx)
  · subst ex; cases rx
    obtain ⟨us, _, pl, _⟩ := Ix.tuple hxs
    exact wpAny_pyIter_tuple (show st.heap.IsTuple a us.toArray from pl) (pi_one (tk := st.toks) Ix _ (turn_tuple a _) ⟨_, Heap.get?_push_size _ rfl, rfl, rfl⟩ qx)
  · subst ex
    obtain ⟨tk, rfl⟩ := rx
    cases low : z.cps.all (· < 128) with
    | false => exact wpAny_pyIter_wide low (pi_one (tk := st.toks) Ix _ (turn_str _ z tk "str_iterator" (.inr rfl)) ⟨_, Heap.get?_push_size _ rfl, rfl, rfl⟩ qx)
    | true => exact wpAny_pyIter_ascii low (pi_one (tk := st.toks) Ix _ (turn_str _ z tk "str_ascii_iterator" (.inl rfl)) ⟨_, Heap.get?_push_size _ rfl, rfl, rfl⟩ qx)
/-- what may be walked, as data -/
def itemsOf : D → Option (List D)
  | .lst ds => some ds
  | .tup ds => some ds
  | .str z => some (signs z)
  | _ => none
theorem ei_seq {ψ : List D → Prop} (h : Ev c te Γ m (fun d => ∃ ds, itemsOf d = some ds ∧ ψ ds)) : EvI c (iSeq c.K te) Γ m ψ := fun σ Hd H n s sa pe l x R q =>
  h σ Hd H n s sa pe l x _ fun v d Hd1 H1 g1 pe1 ⟨ds, e, f⟩ r1 => by
    cases r1 with
    | lst h1 r =>
      cases e
      exact .inl ⟨_, rfl, ⟨_, SqL.of (g1.s _ _ h1)⟩, q _ _ Hd1 H1 g1 pe1 f (itd_list h1 r)⟩
    | tup h1 r =>
      cases e
      exact .inr (.inl ⟨_, rfl, ⟨_, same_sqt g1.s h1⟩, q _ _ Hd1 H1 g1 pe1 f (itd_tup h1 r)⟩)
    | str z =>
      cases e
      exact .inr (.inr ⟨z, rfl, q _ _ Hd1 H1 g1 pe1 f (itd_str z)⟩)
    | _ => cases e
theorem ei_seq_ {d : D} {ds : List D} (h : Ev c te Γ m (· = d)) (e : itemsOf d = some ds) : EvI c (iSeq c.K te) Γ m (· = ds) := ei_seq (h.imp fun _ q => ⟨ds, by rw [q]; exact e, rfl⟩)
theorem ei_rng1 {ι : Int → Prop} (h : EvA c ta Γ m (fun ds => ∃ n, ds = [.int n] ∧ ι n)) (b : ∀ n, ι n → -(2 ^ 62) ≤ n ∧ n < 2 ^ 62) : EvI c (iRng1 ta) Γ m (fun ds => ∃ n, ι n ∧ ds = rngD 0 n.toNat) := fun σ Hd H n s sa pe l x R q =>
  h σ Hd H n s sa pe l x _ fun vs ds Hd1 H1 g1 pe1 ⟨n, e, f⟩ r1 => by
    subst e
    cases r1 with | cons a r => cases r; cases a; exact ⟨n, rfl, (b n f).1, (b n f).2, q _ _ Hd1 H1 g1 pe1 ⟨n, f, rfl⟩ (itd_rng 0 n.toNat)⟩
theorem ei_rng1_ {n : Int} (h : EvA c ta Γ m (· = [.int n])) (b : -(2 ^ 62) ≤ n ∧ n < 2 ^ 62 := by decide) : EvI c (iRng1 ta) Γ m (· = rngD 0 n.toNat) := (ei_rng1 (ι := (· = n)) (h.imp fun _ e => ⟨n, e, rfl⟩) fun _ e => e ▸ b).imp fun ds ⟨k, e, q⟩ => by rw [q, e]
theorem ei_rng2_ {i n : Int} (h : EvA c ta Γ m (· = [.int i, .int n])) (b : -(2 ^ 62) ≤ i ∧ i < 2 ^ 62 ∧ -(2 ^ 62) ≤ n ∧ n < 2 ^ 62 := by decide) : EvI c (iRng2 ta) Γ m (· = rngD i (n - i).toNat) := fun σ Hd H n' s sa pe l x R q =>
  h σ Hd H n' s sa pe l x _ fun vs ds Hd1 H1 g1 pe1 e r1 => by
    subst e
    cases r1 with | cons a r => cases r with | cons a' r => cases r; cases a; cases a'; exact ⟨i, n, rfl, b, q _ _ Hd1 H1 g1 pe1 rfl (itd_rng i _)⟩
theorem ei_enum {ψ : List D → Prop} (h : EvA c ta Γ m (fun as => ∃ ds, as = [.lst ds] ∧ ψ ds)) : EvI c (iEnum c.K ta) Γ m (fun es => ∃ ds, ψ ds ∧ es = enumD ds) := fun σ Hd H n s sa pe l x R q =>
  h σ Hd H n s sa pe l x _ fun vs as Hd1 H1 g1 pe1 ⟨ds, e, f⟩ r1 => by
    subst e
    cases r1 with | cons a r => cases r; cases a with | lst h1 r => exact ⟨_, _, rfl, SqL.of (g1.s _ _ h1), q _ _ Hd1 H1 g1 pe1 ⟨ds, f, rfl⟩ (itd_enum h1 r)⟩
theorem ei_enum_ {ds : List D} (h : EvA c ta Γ m (· = [.lst ds])) : EvI c (iEnum c.K ta) Γ m (· = enumD ds) := (ei_enum (ψ := (· = ds)) (h.imp fun _ e => ⟨ds, e, rfl⟩)).imp fun _ ⟨k, e, q⟩ => by rw [q, e]
theorem ei_zip_ {ds es : List D} (h : EvA c ta Γ m (· = [.lst ds, .lst es])) : EvI c (iZip c.K ta) Γ m (· = zipD ds es) := fun σ Hd H n s sa pe l x R q =>
  h σ Hd H n s sa pe l x _ fun vs as Hd1 H1 g1 pe1 e r1 => by
    subst e
    cases r1 with | cons a r => cases r with | cons a' r => cases r; cases a with | lst h1 r => cases a' with | lst h2 r2 => exact ⟨_, _, _, _, rfl, SqL.of (g1.s _ _ h1), SqL.of (g1.s _ _ h2), q _ _ Hd1 H1 g1 pe1 rfl (itd_zip h1 r h2 r2)⟩

/-! ### targets -/
def TgD (c : Ct) (g : TG) (d : D) (ps : List (Nat × D)) : Prop := ∀ σ Hd H v Γ, SR c.K c.p Hd H σ Γ → Same Hd H → Rep c.K Hd v d → ∀ Q : St → Hp → Prop,
  (∀ σ', SR c.K c.p Hd H σ' (setD Γ ps) → σ'.length = σ.length → (∀ j, j ∉ ps.map (·.1) → σ'[j]? = σ[j]?) → Q σ' H) → g v σ H Q
theorem tg_name {i : Nat} {d : D} : TgD c (gName i) d [(i, d)] := fun σ Hd H v Γ s sa r Q q =>
  q _ (s.set (i := i) (o := some v) (k := .dat d) ⟨v, rfl, r⟩ rfl) (by rw [List.length_set]) fun j hj => by
    rw [List.getElem?_set_ne]
    intro e; subst e; simp at hj
def TgDs (c : Ct) (g : TGs) (ds : List D) (ps : List (Nat × D)) : Prop := ∀ σ Hd H vs Γ, SR c.K c.p Hd H σ Γ → Same Hd H → Reps c.K Hd vs ds → ∀ Q : St → Hp → Prop,
  (∀ σ', SR c.K c.p Hd H σ' (setD Γ ps) → σ'.length = σ.length → (∀ j, j ∉ ps.map (·.1) → σ'[j]? = σ[j]?) → Q σ' H) → g vs σ H Q
theorem setD_append (Γ : List Sk) (ps qs : List (Nat × D)) : setD Γ (ps ++ qs) = setD (setD Γ ps) qs := by
  induction ps generalizing Γ with
  | nil => rfl
  | cons p ps ih => obtain ⟨i, d⟩ := p; exact ih _
theorem tgs_nil : TgDs c gNil [] [] := fun σ Hd H vs Γ s sa r Q q => by cases r; exact ⟨rfl, q σ s rfl fun _ _ => rfl⟩
theorem tgs_cons {g : TG} {gs : TGs} {d : D} {ds : List D} {ps qs : List (Nat × D)} (h1 : TgD c g d ps) (h2 : TgDs c gs ds qs) : TgDs c (gCons g gs) (d :: ds) (ps ++ qs) := fun σ Hd H vs Γ s sa r Q q => by
  cases r with
  | cons a r =>
    refine ⟨_, _, rfl, h1 σ Hd H _ Γ s sa a _ fun σ1 s1 l1 k1 => h2 σ1 Hd H _ _ s1 sa r _ fun σ2 s2 l2 k2 => q σ2 (by rw [setD_append]; exact s2) (l2.trans l1) fun j hj => ?_⟩
    rw [List.map_append, List.mem_append, not_or] at hj
    rw [k2 j hj.2, k1 j hj.1]
theorem tg_tup {gs : TGs} {ds : List D} {ps : List (Nat × D)} {n : Nat} (h : TgDs c gs ds ps) (hn : ds.length = n := by rfl) : TgD c (gTup c.K n gs) (.tup ds) ps := fun σ Hd H v Γ s sa r Q q => by
  cases r with
  | tup h1 r => exact ⟨_, _, rfl, same_sqt sa h1, by rw [r.length, hn], h σ Hd H _ Γ s sa r Q q⟩
end
end DL
set_option maxRecDepth 100000
set_option maxHeartbeats 4000000
/-! DL4: comprehensions; the state of a body (Ok), EvM, statements (Wp). -/
namespace DL
open PySem L2
variable [Tbl]

/-! ### comprehensions -/
inductive Cmp (T : D → Bool → Prop) (F : D → D → Prop) : List D → List D → Prop
  | nil : Cmp T F [] []
  | skip {d ds es} : T d false → Cmp T F ds es → Cmp T F (ds ++ [d]) es
  | take {d e ds es} : T d true → F d e → Cmp T F ds es → Cmp T F (ds ++ [d]) (es ++ [e])
theorem Cmp.len {T : D → Bool → Prop} {F : D → D → Prop} {ds es : List D} (h : Cmp T F ds es) : es.length ≤ ds.length := by
  induction h with
  | nil => exact Nat.le_refl _
  | skip _ _ ih => simp; omega
  | take _ _ _ ih => simp; omega
theorem Cmp.exact {T : D → Bool → Prop} {F : D → D → Prop} {b : D → Bool} {f : D → D} {ds es : List D} (h : Cmp T F ds es) (hT : ∀ d k, T d k → k = b d) (hF : ∀ d e, F d e → e = f d) : es = (ds.filter b).map f := by
  induction h with
  | nil => rfl
  | skip t _ ih => rw [List.filter_append, List.map_append, ← ih]; simp [← hT _ _ t]
  | take t q _ ih => rw [List.filter_append, List.map_append, ← ih]; simp [← hT _ _ t, hF _ _ q]
theorem Cmp.all {T : D → Bool → Prop} {F : D → D → Prop} {φ : D → Prop} {ds es : List D} (h : Cmp T F ds es) (hF : ∀ d e, F d e → φ e) : ∀ e ∈ es, φ e := by
  induction h with
  | nil => simp
  | skip _ _ ih => exact ih
  | take _ q _ ih => intro e he; rcases List.mem_append.mp he with h | h
                     · exact ih e h
                     · rw [List.mem_singleton.mp h]; exact hF _ _ q
theorem Cmp.len_eq {T : D → Bool → Prop} {F : D → D → Prop} {ds es : List D} (h : Cmp T F ds es) (hT : ∀ d, ¬ T d false) : es.length = ds.length := by
  induction h with
  | nil => rfl
  | skip t _ _ => exact absurd t (hT _)
  | take _ _ _ ih => simp [ih]

section
variable {c : Ct} {Γ : List Sk} {m0 m m1 m2 L : Nat} {φ : D → Prop} {te : TE} {ta : TA} {wi : TI} {g : TG} {tt : TT}
theorem ev_lc {vs : List Nat} {ψ : List D → Prop} {T : D → Bool → Prop} {F : D → D → Prop} (hi : EvI c wi Γ m0 ψ) (hL : ∀ ds, ψ ds → ds.length ≤ L) (hz : L < 1000000)
    (h : ∀ ds, ψ ds → ∀ d ∈ ds, ∃ ps, TgD c g d ps ∧ (∀ j ∈ ps.map (·.1), j ∈ vs) ∧ EvB c tt (setD (wipeG Γ vs) ps) m1 (T d) ∧ (T d true → Ev c te (setD (wipeG Γ vs) ps) m2 (F d))) :
    Ev c (tLc wi g tt te vs) Γ (m0 + L * (m1 + m2)) (fun r => ∃ ds es, ψ ds ∧ Cmp T F ds es ∧ r = .lst es) := fun σ Hd H n s sa pe l x Q q => by
  have hLc : n + m0 ≤ LIM := by have := Nat.zero_le (L * (m1 + m2)); omega
  refine hi σ Hd H n s sa pe hLc x _ fun J ds Hd1 H1 g1 pe1 f J1 => fun Da hD => ?_
  have hl := hL ds f
  have nd1 : Hd1 Da = none := g1.s.free hD
  have npa : c.p.a ≠ some Da := fun z => by
    cases hp : c.p with
    | none => rw [hp] at z; cases z
    | some ac =>
      rw [hp] at z pe1
      have z' : ac.1 = Da := by simpa using z
      obtain ⟨⟨i, dg, ct, fd, e1, _⟩, _⟩ := pe1
      rw [z', hD] at e1; cases e1
  let Pv : Nat → Hp → Prop := fun i Hx => ∃ Hd2 acc es, Grow c.p.a Hd1 H1 Hd2 Hx ∧ Hx Da = some (.lst acc) ∧ Hd2 Da = none ∧ PenO c.p (n + m0 + i * (m1 + m2)) Hd2 Hx ∧ Reps c.K Hd2 acc es ∧ Cmp T F (ds.take i) es
  have key : ∀ i, i ≤ ds.length → i * (m1 + m2) ≤ L * (m1 + m2) := fun i hi => Nat.mul_le_mul_right _ (by omega)
  refine ⟨fun i m Hx => m = ds.length - i ∧ i ≤ ds.length ∧ Pv i Hx, ⟨ds.length, by simp, Nat.zero_le _, Hd1, [], [], Grow.loc g1.s hD, upd_same, nd1, ?_, .nil, .nil⟩, ?_⟩
  · have := pe1.write (b := Da) (o := .lst []) npa (pl_free hD)
    simpa using this
  rintro i m Hx ⟨rfl, hi, Hd2, acc, es, gx, hx, nd, px, rx, cx⟩
  obtain ⟨go, stop, yld⟩ := J1 Hd2 Hx gx.d gx.s
  by_cases hlt : i < ds.length
  · refine .inr ⟨go i hlt, Pv (i + 1), fun H' p' => ⟨ds.length - (i + 1), by omega, rfl, hlt, p'⟩, fun v Hy hy => ?_⟩
    have hd : ds[i]? = some ds[i] := by simp
    obtain ⟨Hd3, g3, r3⟩ := yld i v Hy hy _ hd
    obtain ⟨ps, tg, hps, hb, he⟩ := h ds f ds[i] (List.getElem_mem hlt)
    have gT : Grow c.p.a Hd H Hd3 Hy := ⟨(g1.d.trans gx.d).trans g3.d, fun b o ne k e => g3.h b o (by simp) (.inl rfl) (gx.h b o ne k (g1.h b o ne k e)), g3.s, fun a ha na => g3.f a (gx.m a (g1.m a ha)) (gx.f a (g1.m a ha) (g1.f a ha na)), fun a ha => g3.m a (gx.m a (g1.m a ha)), fun z => g3.t (gx.t (g1.t z))⟩
    have sT : SR c.K c.p Hd3 Hy (wipe σ vs) (wipeG Γ vs) := (s.grow gT).wipe vs
    refine tg _ Hd3 Hy v _ sT g3.s r3 _ fun σ2 s2 l2 k2 => ?_
    have l2' : σ2.length = σ.length := by rw [l2, wipe_length]
    refine ⟨wipe_eq k2 l2' hps, ?_⟩
    have p3 := px.grow g3
    have kk := key (i + 1) hlt
    have e1 : (i + 1) * (m1 + m2) = i * (m1 + m2) + (m1 + m2) := Nat.succ_mul _ _
    have hDy : Hy Da = some (.lst acc) := g3.h _ _ (by simp) (.inl rfl) hx
    have nd3 : Hd3 Da = none := g3.f _ (by rw [hx]; simp) nd
    refine hb σ2 Hd3 Hy _ s2 g3.s p3 (by omega) (x.grow gT) _ fun b Hd4 H4 g4 p4 t4 => ?_
    cases b with
    | true =>
      show te σ2 H4 _
      refine he t4 σ2 Hd4 H4 _ (s2.grow g4) g4.s p4 (by omega) (x.grow (gT.trans g4)) _ fun y d Hd5 H5 g5 p5 f5 r5 => ?_
      have g45 := g4.trans g5
      have hD5 : H5 Da = some (.lst acc) := g45.h _ _ npa (.inr fun _ z => by cases z) hDy
      have nd5 : Hd5 Da = none := g45.f _ (by rw [hDy]; simp) nd3
      have hla : acc.length = es.length := rx.length
      have hle := cx.len
      refine ⟨acc, hD5, ?_, Hd5, acc ++ [y], es ++ [d], (gx.trans (g3.up.trans g45)).write hD nd5 (pl_some hD5 rfl), upd_same, nd5, ?_, (rx.mono (g3.d.trans g45.d)).append (.cons r5 .nil), ?_⟩
      · rw [List.length_take] at hle
        rw [hla, sizeLine_eq]; omega
      · refine PenO.more (p5.write npa (pl_some hD5 rfl)) (by omega)
      · rw [List.take_add_one, hd]; exact .take t4 f5 cx
    | false =>
      show Pv (i + 1) H4
      refine ⟨Hd4, acc, es, gx.trans (g3.up.trans g4), g4.h _ _ npa (.inr fun _ z => by cases z) hDy, g4.f _ (by rw [hDy]; simp) nd3, PenO.more p4 (by omega), rx.mono (g3.d.trans g4.d), ?_⟩
      rw [List.take_add_one, hd]; exact .skip t4 cx
  · have e : i = ds.length := by omega
    subst e
    refine .inl ⟨stop _ (Nat.le_refl _), ?_⟩
    have kk := key _ (Nat.le_refl ds.length)
    rw [List.take_length] at cx
    have gf := (g1.trans gx)
    have gz : Grow c.p.a Hd H (upd Hd2 Da (.lst acc)) Hx := gf.freeze sa (g1.free hD) nd hx
    exact q (.ref Da) (.lst es) _ _ gz (PenO.more (px.freeze npa nd (pl_some hx rfl)) (by omega)) ⟨ds, es, f, cx, rfl⟩ (.lst upd_same (rx.mono fun b u e => by rw [upd_ne (ne_of_none e nd)]; exact e))
/-- exact -/
theorem ev_lc_ {vs : List Nat} {ds : List D} {b : D → Bool} {f : D → D} (hi : EvI c wi Γ m0 (· = ds)) (hz : ds.length < 1000000)
    (h : ∀ d ∈ ds, ∃ ps, TgD c g d ps ∧ (∀ j ∈ ps.map (·.1), j ∈ vs) ∧ EvB c tt (setD (wipeG Γ vs) ps) 0 (· = b d) ∧ (b d = true → Ev c te (setD (wipeG Γ vs) ps) 0 (· = f d))) :
    Ev c (tLc wi g tt te vs) Γ m0 (· = .lst ((ds.filter b).map f)) := by
  have q := ev_lc (L := ds.length) (m1 := 0) (m2 := 0) (T := fun d k => k = b d) (F := fun d e => e = f d) hi (fun _ e => by rw [e]; exact Nat.le_refl _) hz fun ds' e d hd => by
    subst e
    obtain ⟨ps, h1, h2, h3, h4⟩ := h d hd
    exact ⟨ps, h1, h2, h3, fun z => h4 z.symm⟩
  rw [Nat.mul_zero, Nat.add_zero] at q
  refine q.imp fun r ⟨ds', es, e, k, z⟩ => ?_
  subst e
  rw [z, k.exact (fun _ _ q => q) fun _ _ q => q]
theorem eb_yes : EvB c tYes Γ 0 (· = true) := fun σ Hd H n s sa pe l x Q q => q true Hd H (.refl sa) pe rfl
theorem eb_yesG {β : Bool → Prop} (h : β true) : EvB c tYes Γ 0 β := fun σ Hd H n s sa pe l x Q q => q true Hd H (.refl sa) pe h
end

/-! ### the state within a body -/
structure Ok (c : Ct) (Hb Hd0 H0 : Hp) (σ : St) (Γ : List Sk) (Hd H : Hp) (n : Nat) : Prop where
  b : Same Hb Hd
  s0 : Same Hd0 H0
  g : Grow c.p.a Hd0 H0 Hd H
  sr : SR c.K c.p Hd H σ Γ
  pe : PenO c.p n Hd H
  fr : ∀ (i : Nat) k l, Γ[i]? = some k → k.isOwn = true → σ[i]? = some (some (.ref l)) → H0 l = none
section
variable {c : Ct} {Hb Hd0 H0 : Hp} {σ σ' : St} {Γ Γ' : List Sk} {Hd H Hd' H' : Hp} {n n' m : Nat} {i : Nat}
theorem Ok.grow (o : Ok c Hb Hd0 H0 σ Γ Hd H n) (g : Grow c.p.a Hd H Hd' H') (pe : PenO c.p n' Hd' H') : Ok c Hb Hd0 H0 σ Γ Hd' H' n' := ⟨o.b.trans g.d, o.s0, o.g.trans g, o.sr.grow g, pe, o.fr⟩
theorem Ok.more (o : Ok c Hb Hd0 H0 σ Γ Hd H n) (e : n ≤ n') : Ok c Hb Hd0 H0 σ Γ Hd H n' := ⟨o.b, o.s0, o.g, o.sr, o.pe.more e, o.fr⟩
/-- slots that own nothing are stored -/
theorem Ok.slots (o : Ok c Hb Hd0 H0 σ Γ Hd H n) (s : SR c.K c.p Hd H σ' Γ') (k : ∀ (i : Nat) (k : Sk), Γ'[i]? = some k → k.isOwn = true → Γ[i]? = some k ∧ σ'[i]? = σ[i]?) : Ok c Hb Hd0 H0 σ' Γ' Hd H n :=
  ⟨o.b, o.s0, o.g, s, o.pe, fun i q l h1 h2 h3 => by obtain ⟨a, b⟩ := k i q h1 h2; rw [b] at h3; exact o.fr i q l a h2 h3⟩
theorem Ok.set (o : Ok c Hb Hd0 H0 σ Γ Hd H n) {v : V} {d : D} (r : Rep c.K Hd v d) : Ok c Hb Hd0 H0 (σ.set i (some v)) (Γ.set i (.dat d)) Hd H n :=
  o.slots (o.sr.set ⟨v, rfl, r⟩ rfl) fun j k h1 h2 => by
    by_cases e : i = j
    · subst e
      by_cases hl : i < Γ.length
      · rw [List.getElem?_set_self hl] at h1; cases h1; cases h2
      · rw [List.getElem?_eq_none (by rw [List.length_set]; omega)] at h1; cases h1
    · rw [List.getElem?_set_ne e] at h1
      exact ⟨h1, List.getElem?_set_ne e⟩
theorem setD_own : ∀ {ps : List (Nat × D)} {Γ : List Sk} {i : Nat} {k : Sk}, (setD Γ ps)[i]? = some k → k.isOwn = true → Γ[i]? = some k ∧ i ∉ ps.map (·.1)
  | [], _, _, _, h, _ => ⟨h, by simp⟩
  | (j, d) :: ps, Γ, i, k, h, o => by
    obtain ⟨a, b⟩ := setD_own (ps := ps) (Γ := Γ.set j (.dat d)) h o
    have e : j ≠ i := fun e => by
      subst e
      by_cases hl : j < Γ.length
      · rw [List.getElem?_set_self hl] at a; cases a; cases o
      · rw [List.getElem?_eq_none (by rw [List.length_set]; omega)] at a; cases a
    rw [List.getElem?_set_ne e] at a
    exact ⟨a, by simp only [List.map_cons, List.mem_cons, not_or]; exact ⟨fun z => e z.symm, b⟩⟩
theorem Ok.tg (o : Ok c Hb Hd0 H0 σ Γ Hd H n) {ps : List (Nat × D)} (s : SR c.K c.p Hd H σ' (setD Γ ps)) (k : ∀ j, j ∉ ps.map (·.1) → σ'[j]? = σ[j]?) : Ok c Hb Hd0 H0 σ' (setD Γ ps) Hd H n :=
  o.slots s fun j q h1 h2 => by obtain ⟨a, b⟩ := setD_own h1 h2; exact ⟨a, k j b⟩
theorem Pn.ne_of {p : Pn} {b : Addr} {n : Nat} {Hd H : Hp} (pe : PenO p n Hd H) (h : H b = none) : p.a ≠ some b := fun z => by
  cases p with
  | none => cases z
  | some ac =>
    have z' : ac.1 = b := by simpa using z
    obtain ⟨⟨i, dg, ct, fd, e1, _⟩, _⟩ := pe
    rw [z', h] at e1; cases e1
/-- a new local list -/
theorem Ok.newOwn (o : Ok c Hb Hd0 H0 σ Γ Hd H n) {a : Addr} {vs : List V} {ds : List D} (h : H a = none) (r : Reps c.K Hd vs ds) : Ok c Hb Hd0 H0 (σ.set i (some (.ref a))) (Γ.set i (.own ds)) Hd (upd H a (.lst vs)) n := by
  have ne := Pn.ne_of o.pe h
  have g := Grow.loc (p := c.p.a) (o := HO.lst vs) o.g.s h
  have hd : Hd a = none := o.g.s.free h
  have nu : ∀ (j : Nat) k l, Γ[j]? = some k → k.isOwn = true → σ[j]? = some (some (.ref l)) → l ≠ a := fun j k l h1 h2 h3 z => by
    subst z
    have q := o.sr.ok j _ k h3 h1
    cases k with
    | own _ => obtain ⟨l', vs', e, e2, _⟩ := q; cases e; rw [h] at e2; cases e2
    | ow _ _ => obtain ⟨l', vs', e, e2, _⟩ := q; cases e; rw [h] at e2; cases e2
    | odk _ _ => obtain ⟨l', vs', e, e2, _⟩ := q; cases e; rw [h] at e2; cases e2
    | slf _ _ _ _ _ => obtain ⟨l', vs', e, e2, _⟩ := q; cases e; rw [h] at e2; cases e2
    | _ => cases h2
  have sg := o.sr.grow g
  refine ⟨o.b, o.s0, o.g.trans g, ⟨?_, fun j o' k h1 h2 => ?_, fun j j' k1 k2 l nj h1 o1 h2 o2 e1 e2 => ?_⟩, o.pe.write ne (pl_free h), fun j k l h1 h2 h3 => ?_⟩
  · rw [List.length_set, List.length_set]; exact o.sr.len
  · by_cases e : i = j
    · subst e
      by_cases hl : i < Γ.length
      · rw [List.getElem?_set_self hl] at h2; cases h2
        rw [List.getElem?_set_self (by rw [o.sr.len]; exact hl)] at h1; cases h1
        exact ⟨a, vs, rfl, upd_same, hd, r, ne⟩
      · rw [List.getElem?_eq_none (by rw [List.length_set]; omega)] at h2; cases h2
    · rw [List.getElem?_set_ne e] at h1 h2
      exact sg.ok j _ _ h1 h2
  · by_cases a1 : i = j
    · subst a1
      have a2 : i ≠ j' := nj
      rw [List.getElem?_set_ne a2] at h2 e2
      have hl : i < σ.length := by
        have := (List.getElem?_eq_some_iff.mp e1).1
        rwa [List.length_set] at this
      rw [List.getElem?_set_self hl] at e1; cases e1
      exact nu j' k2 _ h2 o2 e2 rfl
    · rw [List.getElem?_set_ne a1] at h1 e1
      by_cases a2 : i = j'
      · subst a2
        have hl : i < σ.length := by
          have := (List.getElem?_eq_some_iff.mp e2).1
          rwa [List.length_set] at this
        rw [List.getElem?_set_self hl] at e2; cases e2
        exact nu j k1 _ h1 o1 e1 rfl
      · rw [List.getElem?_set_ne a2] at h2 e2
        exact o.sr.ap j j' k1 k2 l nj h1 o1 h2 o2 e1 e2
  · by_cases e : i = j
    · subst e
      have hl : i < σ.length := by
        have := (List.getElem?_eq_some_iff.mp h3).1
        rwa [List.length_set] at this
      rw [List.getElem?_set_self hl] at h3; cases h3
      exact o.g.free h
    · rw [List.getElem?_set_ne e] at h1 h3
      exact o.fr j k l h1 h2 h3
/-- a local list is written -/
theorem Ok.writeOwn (o : Ok c Hb Hd0 H0 σ Γ Hd H n) {l : Addr} {ds es : List D} {vs : List V} (hi : Γ[i]? = some (.own ds)) (hs : σ[i]? = some (some (.ref l))) (r : Reps c.K Hd vs es) : Ok c Hb Hd0 H0 σ (Γ.set i (.own es)) Hd (upd H l (.lst vs)) n := by
  obtain ⟨l', ws, e, h1, h2, h3, ne⟩ := o.sr.ok i _ _ hs hi
  cases e
  have hl : i < Γ.length := (List.getElem?_eq_some_iff.mp hi).1
  have f0 := o.fr i _ _ hi rfl hs
  refine ⟨o.b, o.s0, o.g.write f0 h2 (pl_some h1 rfl), ⟨by rw [List.length_set]; exact o.sr.len, fun j o' k q1 q2 => ?_, fun j j' k1 k2 b nj q1 o1 q2 o2 e1 e2 => ?_⟩, o.pe.write ne (pl_some h1 rfl), fun j k b q1 o1 q3 => ?_⟩
  · by_cases e : i = j
    · subst e
      rw [List.getElem?_set_self hl] at q2; cases q2
      rw [hs] at q1; cases q1
      exact ⟨l, vs, rfl, upd_same, h2, r, ne⟩
    · rw [List.getElem?_set_ne e] at q2
      have old := o.sr.ok j _ _ q1 q2
      cases k with
      | own _ =>
        obtain ⟨l2, w2, e2, b1, b2⟩ := old
        subst e2
        have nl : l2 ≠ l := fun z => by subst z; exact o.sr.ap i j _ _ _ e hi rfl q2 rfl hs q1
        exact ⟨l2, w2, rfl, by rw [upd_ne nl]; exact b1, b2⟩
      | ow _ _ =>
        obtain ⟨l2, w2, e2, b1, b2⟩ := old
        subst e2
        have nl : l2 ≠ l := fun z => by subst z; exact o.sr.ap i j _ _ _ e hi rfl q2 rfl hs q1
        exact ⟨l2, w2, rfl, by rw [upd_ne nl]; exact b1, b2⟩
      | odk _ _ =>
        obtain ⟨l2, w2, e2, b1, b2⟩ := old
        subst e2
        have nl : l2 ≠ l := fun z => by subst z; exact o.sr.ap i j _ _ _ e hi rfl q2 rfl hs q1
        exact ⟨l2, w2, rfl, by rw [upd_ne nl]; exact b1, b2⟩
      | slf _ _ _ _ _ =>
        obtain ⟨l2, w2, e2, b1, b2⟩ := old
        subst e2
        have nl : l2 ≠ l := fun z => by subst z; exact o.sr.ap i j _ _ _ e hi rfl q2 rfl hs q1
        exact ⟨l2, w2, rfl, by rw [upd_ne nl]; exact b1, b2⟩
      | _ => exact old
  · have back : ∀ {j : Nat} {k : Sk}, (Γ.set i (.own es))[j]? = some k → k.isOwn = true → ∃ k', Γ[j]? = some k' ∧ k'.isOwn = true := fun {j k} q oq => by
      by_cases e : i = j
      · subst e; exact ⟨_, hi, rfl⟩
      · rw [List.getElem?_set_ne e] at q; exact ⟨_, q, oq⟩
    obtain ⟨k1', a1, b1⟩ := back q1 o1
    obtain ⟨k2', a2, b2⟩ := back q2 o2
    exact o.sr.ap j j' k1' k2' b nj a1 b1 a2 b2 e1 e2
  · by_cases e : i = j
    · subst e
      exact o.fr i _ b hi rfl q3
    · rw [List.getElem?_set_ne e] at q1
      exact o.fr j k b q1 o1 q3
/-- a local list becomes data -/
theorem Ok.freeze (o : Ok c Hb Hd0 H0 σ Γ Hd H n) {ds : List D} (hi : Γ[i]? = some (.own ds)) : ∃ l vs, σ[i]? = some (some (.ref l)) ∧ H l = some (.lst vs) ∧ Hd l = none ∧ Reps c.K Hd vs ds ∧ c.p.a ≠ some l ∧ Ok c Hb Hd0 H0 σ (Γ.set i (.dat (.lst ds))) (upd Hd l (.lst vs)) H n := by
  obtain ⟨o', hs, l, vs, e, h1, h2, h3, ne⟩ := o.sr.get hi
  subst e
  have hl : i < Γ.length := (List.getElem?_eq_some_iff.mp hi).1
  have f0 := o.fr i _ _ hi rfl hs
  have mo : Same Hd (upd Hd l (.lst vs)) := fun b u e => by rw [upd_ne (ne_of_none e h2)]; exact e
  have keepO : ∀ {j : Nat} {k : Sk}, (Γ.set i (.dat (.lst ds)))[j]? = some k → k.isOwn = true → i ≠ j ∧ Γ[j]? = some k := fun {j k} q oq => by
    by_cases e : i = j
    · subst e; rw [List.getElem?_set_self hl] at q; cases q; cases oq
    · rw [List.getElem?_set_ne e] at q; exact ⟨e, q⟩
  refine ⟨l, vs, hs, h1, h2, h3, ne, o.b.trans mo, o.s0, o.g.freeze o.s0 f0 h2 h1, ⟨by rw [List.length_set]; exact o.sr.len, fun j o2 k q1 q2 => ?_, fun j j' k1 k2 b nj q1 o1 q2 o2 e1 e2 => ?_⟩, o.pe.freeze ne h2 (pl_some h1 rfl), fun j k b q1 o1 q3 => o.fr j k b (keepO q1 o1).2 o1 q3⟩
  · by_cases e : i = j
    · subst e
      rw [List.getElem?_set_self hl] at q2; cases q2
      rw [hs] at q1; cases q1
      exact ⟨_, rfl, .lst upd_same (h3.mono mo)⟩
    · rw [List.getElem?_set_ne e] at q2
      have old := o.sr.ok j _ _ q1 q2
      cases k with
      | un => exact True.intro
      | dat d => obtain ⟨v, e1, e2⟩ := old; exact ⟨v, e1, e2.mono mo⟩
      | own _ =>
        obtain ⟨l2, w2, e2, b1, b2, b3, b4⟩ := old
        subst e2
        have nl : l2 ≠ l := fun z => by subst z; exact o.sr.ap i j _ _ _ e hi rfl q2 rfl hs q1
        exact ⟨l2, w2, rfl, b1, by rw [upd_ne nl]; exact b2, b3.mono mo, b4⟩
      | ow _ _ =>
        obtain ⟨l2, w2, e2, b1, bl, b2, b3, b4⟩ := old
        subst e2
        have nl : l2 ≠ l := fun z => by subst z; exact o.sr.ap i j _ _ _ e hi rfl q2 rfl hs q1
        exact ⟨l2, w2, rfl, b1, bl, by rw [upd_ne nl]; exact b2, b3.mono mo, b4⟩
      | odk _ _ =>
        obtain ⟨l2, w2, e2, b1, bl, b2, b3, b4⟩ := old
        subst e2
        have nl : l2 ≠ l := fun z => by subst z; exact o.sr.ap i j _ _ _ e hi rfl q2 rfl hs q1
        exact ⟨l2, w2, rfl, b1, bl, by rw [upd_ne nl]; exact b2, b3.mono mo, b4⟩
      | slf _ _ _ _ _ =>
        obtain ⟨l2, w2, e2, b1, bl, b2, b3, b4⟩ := old
        subst e2
        have nl : l2 ≠ l := fun z => by subst z; exact o.sr.ap i j _ _ _ e hi rfl q2 rfl hs q1
        exact ⟨l2, w2, rfl, b1, bl, by rw [upd_ne nl]; exact b2, b3.mono mo, b4⟩
      | pen => exact old
  · exact o.sr.ap j j' k1 k2 b nj (keepO q1 o1).2 o1 (keepO q2 o2).2 o2 e1 e2
end
end DL
set_option maxRecDepth 100000
set_option maxHeartbeats 4000000
/-! DL5: EvM, statements, calls, promises. -/
namespace DL
open PySem L2
variable [Tbl]

/-- an expression in a body: owned slots may change -/
def EvM (c : Ct) (te : TE) (Γ : List Sk) (m : Nat) (Φ : D → List Sk → Prop) : Prop := ∀ Hb Hd0 H0 σ Hd H n, Ok c Hb Hd0 H0 σ Γ Hd H n → n + m ≤ LIM → Xs c Hd0 H0 → ∀ Q : VK,
  (∀ v d Γ' Hd' H', Φ d Γ' → Ok c Hb Hd0 H0 σ Γ' Hd' H' (n + m) → Rep c.K Hd' v d → Q v H') → te σ H Q
structure Wh where
  N : List Sk → Prop
  R : D → Prop
  B : List Sk → Prop := fun _ => False
  C : List Sk → Prop := fun _ => False
def Wp (c : Ct) (t : TS) (Γ : List Sk) (m : Nat) (W : Wh) : Prop := ∀ Hb Hd0 H0 σ Hd H n, Ok c Hb Hd0 H0 σ Γ Hd H n → n + m ≤ LIM → Xs c Hd0 H0 → ∀ E : Ends,
  (∀ Γ' σ' Hd' H', W.N Γ' → Ok c Hb Hd0 H0 σ' Γ' Hd' H' (n + m) → E.nx σ' H') →
  (∀ Γ' σ' Hd' H', W.B Γ' → Ok c Hb Hd0 H0 σ' Γ' Hd' H' (n + m) → E.bk σ' H') →
  (∀ Γ' σ' Hd' H', W.C Γ' → Ok c Hb Hd0 H0 σ' Γ' Hd' H' (n + m) → E.ct σ' H') →
  (∀ v d Hd' H', W.R d → Grow c.p.a Hd0 H0 Hd' H' → PenO c.p (n + m) Hd' H' → Rep c.K Hd' v d → E.rt v H') → t E σ H
/-- at the end: everything is told -/
abbrev retW (R : D → Prop) : Wh := { N := fun _ => R .non, R := R }

section
variable {c : Ct} {Γ : List Sk} {m m0 m1 m2 m3 L : Nat} {φ φ1 ψ : D → Prop} {Φ : D → List Sk → Prop} {te ta tb : TE} {t u : TS} {tt : TT} {W : Wh} {g : TG} {i : Nat}
theorem EvM.more (h : EvM c te Γ m Φ) (e : m ≤ m1) : EvM c te Γ m1 Φ := fun Hb Hd0 H0 σ Hd H n o l x Q q => h Hb Hd0 H0 σ Hd H n o (by omega) x Q fun v d Γ' Hd' H' f o' => q v d Γ' Hd' H' f (o'.more (by omega))
theorem EvM.imp {Φ' : D → List Sk → Prop} (h : EvM c te Γ m Φ) (e : ∀ d G, Φ d G → Φ' d G) : EvM c te Γ m Φ' := fun Hb Hd0 H0 σ Hd H n o l x Q q => h Hb Hd0 H0 σ Hd H n o l x Q fun v d Γ' Hd' H' f o' => q v d Γ' Hd' H' (e d Γ' f) o'
theorem Ev.toM (h : Ev c te Γ m φ) : EvM c te Γ m (fun d Γ' => Γ' = Γ ∧ φ d) := fun Hb Hd0 H0 σ Hd H n o l x Q q =>
  h σ Hd H n o.sr o.g.s o.pe l (x.grow o.g) Q fun v d Hd' H' g pe f r => q v d Γ Hd' H' ⟨rfl, f⟩ (o.grow g pe) r
/-- a local list seen as data while an expression gives a scalar -/
def scalar : D → Bool
  | .non => true | .bl _ => true | .int _ => true | .str _ => true | _ => false
theorem rep_scalar {K : PySem.W.Frag} {H H' : Hp} {v : V} {d : D} (s : scalar d = true) (r : Rep K H v d) : Rep K H' v d := by
  cases r with
  | non => exact .non
  | bl b => exact .bl b
  | int b => exact .int b
  | str b => exact .str b
  | _ => cases s
theorem ev_borrow {ds : List D} (hi : Γ[i]? = some (.own ds)) (h : Ev c te (Γ.set i (.dat (.lst ds))) m φ) (hs : ∀ d, φ d → scalar d = true) (hx : ∀ C fs, ¬ c.χ C fs := by intro _ _ z; exact z) : Ev c te Γ m φ := fun σ Hd H n s sa pe l x Q q => by
  obtain ⟨o', hσ, a, vs, e, h1, h2, h3, ne⟩ := s.get hi
  subst e
  have hl : i < Γ.length := (List.getElem?_eq_some_iff.mp hi).1
  have mo : Same Hd (upd Hd a (.lst vs)) := fun b u e => by rw [upd_ne (ne_of_none e h2)]; exact e
  have sa' : Same (upd Hd a (.lst vs)) H := fun b u e => by
    by_cases z : b = a
    · subst z; rw [upd_same] at e; cases e; exact h1
    · rw [upd_ne z] at e; exact sa _ _ e
  have keepO : ∀ {j : Nat} {k : Sk}, (Γ.set i (.dat (.lst ds)))[j]? = some k → k.isOwn = true → i ≠ j ∧ Γ[j]? = some k := fun {j k} q oq => by
    by_cases e : i = j
    · subst e; rw [List.getElem?_set_self hl] at q; cases q; cases oq
    · rw [List.getElem?_set_ne e] at q; exact ⟨e, q⟩
  have s' : SR c.K c.p (upd Hd a (.lst vs)) H σ (Γ.set i (.dat (.lst ds))) := by
    refine ⟨by rw [List.length_set]; exact s.len, fun j o2 k q1 q2 => ?_, fun j j' k1 k2 b nj q1 o1 q2 o2 e1 e2 => s.ap j j' k1 k2 b nj (keepO q1 o1).2 o1 (keepO q2 o2).2 o2 e1 e2⟩
    by_cases e : i = j
    · subst e
      rw [List.getElem?_set_self hl] at q2; cases q2
      rw [hσ] at q1; cases q1
      exact ⟨_, rfl, .lst upd_same (h3.mono mo)⟩
    · rw [List.getElem?_set_ne e] at q2
      have old := s.ok j _ _ q1 q2
      cases k with
      | un => exact True.intro
      | dat d => obtain ⟨v, e1, e2⟩ := old; exact ⟨v, e1, e2.mono mo⟩
      | own _ =>
        obtain ⟨l2, w2, e2, b1, b2, b3, b4⟩ := old
        subst e2
        have nl : l2 ≠ a := fun z => by subst z; exact s.ap i j _ _ _ e hi rfl q2 rfl hσ q1
        exact ⟨l2, w2, rfl, b1, by rw [upd_ne nl]; exact b2, b3.mono mo, b4⟩
      | ow _ _ =>
        obtain ⟨l2, w2, e2, b1, bl, b2, b3, b4⟩ := old
        subst e2
        have nl : l2 ≠ a := fun z => by subst z; exact s.ap i j _ _ _ e hi rfl q2 rfl hσ q1
        exact ⟨l2, w2, rfl, b1, bl, by rw [upd_ne nl]; exact b2, b3.mono mo, b4⟩
      | odk _ _ =>
        obtain ⟨l2, w2, e2, b1, bl, b2, b3, b4⟩ := old
        subst e2
        have nl : l2 ≠ a := fun z => by subst z; exact s.ap i j _ _ _ e hi rfl q2 rfl hσ q1
        exact ⟨l2, w2, rfl, b1, bl, by rw [upd_ne nl]; exact b2, b3.mono mo, b4⟩
      | slf _ _ _ _ _ =>
        obtain ⟨l2, w2, e2, b1, bl, b2, b3, b4⟩ := old
        subst e2
        have nl : l2 ≠ a := fun z => by subst z; exact s.ap i j _ _ _ e hi rfl q2 rfl hσ q1
        exact ⟨l2, w2, rfl, b1, bl, by rw [upd_ne nl]; exact b2, b3.mono mo, b4⟩
      | pen => exact old
  have x' : Xs c (upd Hd a (.lst vs)) H := fun C dx fs Hd' H' g hc _ => absurd hc (hx C fs)
  refine h σ _ H n s' sa' (pe.freeze ne h2 (pl_some h1 rfl)) l x' Q fun v d Hd' H' g pe' f r => ?_
  have gg : Grow c.p.a Hd H Hd H' := ⟨Same.refl _, g.h, (mo.trans g.d).trans g.s, fun _ _ z => z, g.m, g.t⟩
  refine q v d Hd H' gg ?_ f (rep_scalar (hs d f) r)
  cases hp : c.p with
  | none => exact True.intro
  | some ac =>
    rw [hp] at pe pe'
    exact ⟨pe'.h, pe.d, pe.c, pe'.t.1, pe.t.2⟩
theorem evm_freeze {ds : List D} (hi : Γ[i]? = some (.own ds)) (h : EvM c te (Γ.set i (.dat (.lst ds))) m Φ) : EvM c te Γ m Φ := fun Hb Hd0 H0 σ Hd H n o l x Q q => by
  obtain ⟨a, vs, _, _, _, _, _, o'⟩ := o.freeze hi
  exact h Hb Hd0 H0 σ _ H n o' l x Q q
theorem wp_freeze {ds : List D} (i : Nat) (hi : Γ[i]? = some (.own ds)) (h : Wp c t (Γ.set i (.dat (.lst ds))) m W) : Wp c t Γ m W := fun Hb Hd0 H0 σ Hd H n o l x E k1 k2 k3 k4 => by
  obtain ⟨a, vs, _, _, _, _, _, o'⟩ := o.freeze hi
  exact h Hb Hd0 H0 σ _ H n o' l x E k1 k2 k3 k4
theorem Wp.more (h : Wp c t Γ m W) (e : m ≤ m1) : Wp c t Γ m1 W := fun Hb Hd0 H0 σ Hd H n o l x E k1 k2 k3 k4 =>
  h Hb Hd0 H0 σ Hd H n o (by omega) x E (fun a b d e f o' => k1 a b d e f (o'.more (by omega))) (fun a b d e f o' => k2 a b d e f (o'.more (by omega))) (fun a b d e f o' => k3 a b d e f (o'.more (by omega))) (fun a b d e f g pe => k4 a b d e f g (pe.more (by omega)))
theorem Wp.imp {W' : Wh} (h : Wp c t Γ m W) (eN : ∀ G, W.N G → W'.N G) (eR : ∀ d, W.R d → W'.R d) (eB : ∀ G, W.B G → W'.B G) (eC : ∀ G, W.C G → W'.C G) : Wp c t Γ m W' := fun Hb Hd0 H0 σ Hd H n o l x E k1 k2 k3 k4 =>
  h Hb Hd0 H0 σ Hd H n o l x E (fun a b d e f => k1 a b d e (eN _ f)) (fun a b d e f => k2 a b d e (eB _ f)) (fun a b d e f => k3 a b d e (eC _ f)) (fun a b d e f => k4 a b d e (eR _ f))
/-! statements -/
theorem wp_next (h : W.N Γ) : Wp c tNext Γ 0 W := fun Hb Hd0 H0 σ Hd H n o l x E k1 k2 k3 k4 => k1 Γ σ Hd H h o
theorem wp_break (h : W.B Γ) : Wp c tBreak Γ 0 W := fun Hb Hd0 H0 σ Hd H n o l x E k1 k2 k3 k4 => k2 Γ σ Hd H h o
theorem wp_cont (h : W.C Γ) : Wp c tCont Γ 0 W := fun Hb Hd0 H0 σ Hd H n o l x E k1 k2 k3 k4 => k3 Γ σ Hd H h o
theorem wp_seqW {N' : List Sk → Prop} (h : Wp c t Γ m1 { W with N := N' }) (h2 : ∀ Γ', N' Γ' → Wp c u Γ' m2 W) : Wp c (tSeq t u) Γ (m1 + m2) W := fun Hb Hd0 H0 σ Hd H n o l x E k1 k2 k3 k4 => by
  refine h Hb Hd0 H0 σ Hd H n o (by omega) x _ (fun Γ' σ' Hd' H' f o' => ?_) (fun a b d e f o' => k2 a b d e f (o'.more (by omega))) (fun a b d e f o' => k3 a b d e f (o'.more (by omega))) (fun a b d e f g pe => k4 a b d e f g (pe.more (by omega)))
  refine h2 Γ' f Hb Hd0 H0 σ' Hd' H' _ o' (by omega) x E ?_ ?_ ?_ ?_
  · intro a b d e f o2; exact k1 a b d e f (by rw [← Nat.add_assoc]; exact o2)
  · intro a b d e f o2; exact k2 a b d e f (by rw [← Nat.add_assoc]; exact o2)
  · intro a b d e f o2; exact k3 a b d e f (by rw [← Nat.add_assoc]; exact o2)
  · intro a b d e f g o2; exact k4 a b d e f g (by rw [← Nat.add_assoc]; exact o2)
theorem wp_ret (h : EvM c te Γ m (fun d _ => W.R d)) : Wp c (tRet te) Γ m W := fun Hb Hd0 H0 σ Hd H n o l x E k1 k2 k3 k4 =>
  h Hb Hd0 H0 σ Hd H n o l x _ fun v d Γ' Hd' H' f o' r => k4 v d Hd' H' f o'.g o'.pe r
theorem wp_ret_ {d : D} (h : Ev c te Γ m (· = d)) (e : W.R d) : Wp c (tRet te) Γ m W := wp_ret (h.toM.imp fun d' _ z => by rw [z.2]; exact e)
theorem wp_retE (h : Ev c te Γ m W.R) : Wp c (tRet te) Γ m W := wp_ret (h.toM.imp fun d' _ z => z.2)
theorem wp_retN (h : W.R .non) : Wp c tRetN Γ 0 W := fun Hb Hd0 H0 σ Hd H n o l x E k1 k2 k3 k4 => k4 .non .non Hd H h o.g o.pe .non
theorem wp_asg {j : Nat} (h : EvM c te Γ m (fun d Γ' => W.N (Γ'.set j (.dat d)))) : Wp c (tAsg te (gName j)) Γ m W := fun Hb Hd0 H0 σ Hd H n o l x E k1 k2 k3 k4 =>
  h Hb Hd0 H0 σ Hd H n o l x _ fun v d Γ' Hd' H' f o' r => k1 _ _ Hd' H' f (o'.set r)
/-- x = e; rest -/
theorem wq_asg {j : Nat} {φ : D → Prop} (h : Ev c te Γ m1 φ) (k : ∀ d, φ d → Wp c u (Γ.set j (.dat d)) m2 W) : Wp c (tSeq (tAsg te (gName j)) u) Γ (m1 + m2) W :=
  wp_seqW (N' := fun Γ' => ∃ d, φ d ∧ Γ' = Γ.set j (.dat d)) (wp_asg (h.toM.imp fun d G ⟨e, f⟩ => ⟨d, f, by rw [e]⟩)) fun Γ' ⟨d, f, e⟩ => by rw [e]; exact k d f
theorem wq_asg_ {j : Nat} {d : D} (h : Ev c te Γ m1 (· = d)) (k : Wp c u (Γ.set j (.dat d)) m2 W) : Wp c (tSeq (tAsg te (gName j)) u) Γ (m1 + m2) W := wq_asg h fun _ e => by rw [e]; exact k
theorem wq_asgM {j : Nat} (h : EvM c te Γ m1 Φ) (k : ∀ d G, Φ d G → Wp c u (G.set j (.dat d)) m2 W) : Wp c (tSeq (tAsg te (gName j)) u) Γ (m1 + m2) W :=
  wp_seqW (N' := fun Γ' => ∃ d G, Φ d G ∧ Γ' = G.set j (.dat d)) (wp_asg (h.imp fun d G f => ⟨d, G, f, rfl⟩)) fun Γ' ⟨d, G, f, e⟩ => by rw [e]; exact k d G f
/-- xs = [..], a list that will be changed -/
theorem wp_asgOwn {ta : TA} {j : Nat} {ψ : List D → Prop} (h : EvA c ta Γ m ψ) (hl : ∀ ds, ψ ds → ds.length ≤ 1000) (k : ∀ ds, ψ ds → W.N (Γ.set j (.own ds))) : Wp c (tAsg (tLst ta) (gName j)) Γ m W := fun Hb Hd0 H0 σ Hd H n o l x E k1 k2 k3 k4 =>
  h σ Hd H n o.sr o.g.s o.pe l (x.grow o.g) _ fun vs ds Hd' H' g pe f r => ⟨Nat.le_of_lt (small1000 (by rw [r.length]; exact hl ds f)), fun a ha => k1 _ _ _ _ (k ds f) ((o.grow g pe).newOwn ha r)⟩
theorem wq_asgOwn {ta : TA} {j : Nat} {ds : List D} (h : EvA c ta Γ m1 (· = ds)) (k : Wp c u (Γ.set j (.own ds)) m2 W) (hl : ds.length ≤ 1000 := by first | decide | simp) : Wp c (tSeq (tAsg (tLst ta) (gName j)) u) Γ (m1 + m2) W :=
  wp_seqW (N' := fun G => G = Γ.set j (.own ds)) (wp_asgOwn h (fun _ e => by rw [e]; exact hl) fun _ e => by rw [e]) fun _ e => by rw [e]; exact k
theorem wp_drop (h : EvM c te Γ m (fun _ G => W.N G)) : Wp c (tDrop te) Γ m W := fun Hb Hd0 H0 σ Hd H n o l x E k1 k2 k3 k4 =>
  h Hb Hd0 H0 σ Hd H n o l x _ fun v d Γ' Hd' H' f o' r => k1 _ _ Hd' H' f o'
theorem wp_if {β : Bool → Prop} (h : EvB c tt Γ m1 β) (h1 : β true → Wp c t Γ m2 W) (h2 : β false → Wp c u Γ m2 W) : Wp c (tIfS tt t u) Γ (m1 + m2) W := fun Hb Hd0 H0 σ Hd H n o l x E k1 k2 k3 k4 =>
  h σ Hd H n o.sr o.g.s o.pe (by omega) (x.grow o.g) _ fun b Hd' H' g pe f => by
    have fin : ∀ {t' : TS}, Wp c t' Γ m2 W → t' E σ H' := fun {t'} w => by
      refine w Hb Hd0 H0 σ Hd' H' _ (o.grow g pe) (by omega) x E ?_ ?_ ?_ ?_
      · intro a b d e f o2; exact k1 a b d e f (by rw [← Nat.add_assoc]; exact o2)
      · intro a b d e f o2; exact k2 a b d e f (by rw [← Nat.add_assoc]; exact o2)
      · intro a b d e f o2; exact k3 a b d e f (by rw [← Nat.add_assoc]; exact o2)
      · intro a b d e f g o2; exact k4 a b d e f g (by rw [← Nat.add_assoc]; exact o2)
    cases b with
    | true => exact fin (h1 f)
    | false => exact fin (h2 f)
theorem wp_ifT (h : EvB c tt Γ m1 (· = true)) (h1 : Wp c t Γ m2 W) : Wp c (tIfS tt t u) Γ (m1 + m2) W := wp_if h (fun _ => h1) fun e => absurd e (by simp)
theorem wp_ifF (h : EvB c tt Γ m1 (· = false)) (h1 : Wp c u Γ m2 W) : Wp c (tIfS tt t u) Γ (m1 + m2) W := wp_if h (fun e => absurd e (by simp)) fun _ => h1
/-- if c: t; rest, the rest told in each way -/
theorem wq_if {t1 t2 : TS} {β : Bool → Prop} (h : EvB c tt Γ m1 β) (h1 : β true → Wp c (tSeq t1 u) Γ m2 W) (h2 : β false → Wp c (tSeq t2 u) Γ m2 W) : Wp c (tSeq (tIfS tt t1 t2) u) Γ (m1 + m2) W := by
  have q := wp_if (t := tSeq t1 u) (u := tSeq t2 u) h h1 h2
  exact q
theorem wq_ifT {t1 t2 : TS} (h : EvB c tt Γ m1 (· = true)) (h1 : Wp c (tSeq t1 u) Γ m2 W) : Wp c (tSeq (tIfS tt t1 t2) u) Γ (m1 + m2) W := wq_if h (fun _ => h1) fun e => absurd e (by simp)
theorem wq_ifF {t1 t2 : TS} (h : EvB c tt Γ m1 (· = false)) (h1 : Wp c (tSeq t2 u) Γ m2 W) : Wp c (tSeq (tIfS tt t1 t2) u) Γ (m1 + m2) W := wq_if h (fun e => absurd e (by simp)) fun _ => h1
theorem wq_next (h : Wp c u Γ m W) : Wp c (tSeq tNext u) Γ m W := h
theorem wq_ret (h : Wp c (tRet te) Γ m { W with N := fun _ => False }) : Wp c (tSeq (tRet te) u) Γ m W := by
  have q := wp_seqW (m2 := 0) (u := u) h fun _ f => f.elim
  exact q
theorem wq_seq {a b : TS} (h : Wp c (tSeq a (tSeq b u)) Γ m W) : Wp c (tSeq (tSeq a b) u) Γ m W := h
/-! lists of one's own -/
theorem seqix_nat {k n : Nat} (h : k < n) : seqIndex? (k : Int) n = some k := by
  unfold seqIndex?
  simp
  omega
theorem wp_append {K : PySem.W.Frag} (h : EvM c te Γ m (fun d G => ∃ ds, G[i]? = some (.own ds) ∧ ds.length < 1000000 ∧ W.N (G.set i (.own (ds ++ [d]))))) (h0 : ∃ ds, Γ[i]? = some (.own ds)) : Wp c (tDrop (tBM K "list" rAppend (tVar i) (tCons te tNil))) Γ m W := fun Hb Hd0 H0 σ Hd H n o l x E k1 k2 k3 k4 => by
  obtain ⟨ds0, h0⟩ := h0
  obtain ⟨o0, hs, a, vs, e, h1, _⟩ := o.sr.get h0
  subst e
  refine ⟨_, hs, .inl ⟨rfl, _, SqL.of h1⟩, h Hb Hd0 H0 σ Hd H n o l x _ fun v d G Hd' H' f o' r => ?_⟩
  obtain ⟨ds, g1, g2, g3⟩ := f
  obtain ⟨o2, hs2, b, ws, e, h2, h3, h4, _⟩ := o'.sr.get g1
  subst e
  rw [hs] at hs2; cases hs2
  exact ⟨a, ws, v, rfl, rfl, h2, by rw [h4.length, sizeLine_eq]; omega, k1 _ _ _ _ g3 (o'.writeOwn g1 hs (h4.append (.cons r .nil)))⟩
theorem wq_append {K : PySem.W.Frag} (h : EvM c te Γ m1 Φ) (h0 : ∃ ds, Γ[i]? = some (.own ds)) (k : ∀ d G, Φ d G → ∃ ds, G[i]? = some (.own ds) ∧ ds.length < 1000000 ∧ Wp c u (G.set i (.own (ds ++ [d]))) m2 W) : Wp c (tSeq (tDrop (tBM K "list" rAppend (tVar i) (tCons te tNil))) u) Γ (m1 + m2) W :=
  wp_seqW (N' := fun G' => Wp c u G' m2 W) (wp_append (h.imp fun d G f => k d G f) h0) fun _ w => w
theorem evm_popAt {K : PySem.W.Frag} (h : EvM c te Γ m (fun d G => ∃ (ds : List D) (k : Nat) (e : D), G[i]? = some (.own ds) ∧ d = .int (k : Int) ∧ ds[k]? = some e ∧ k < 1000000 ∧ Φ e (G.set i (.own (ds.eraseIdx k))))) (h0 : ∃ ds, Γ[i]? = some (.own ds)) :
    EvM c (tBM K "list" rPopAt (tVar i) (tCons te tNil)) Γ m Φ := fun Hb Hd0 H0 σ Hd H n o l x Q q => by
  obtain ⟨ds0, h0⟩ := h0
  obtain ⟨o0, hs, a, vs, e, h1, _⟩ := o.sr.get h0
  subst e
  refine ⟨_, hs, .inl ⟨rfl, _, SqL.of h1⟩, h Hb Hd0 H0 σ Hd H n o l x _ fun v d G Hd' H' f o' r => ?_⟩
  obtain ⟨ds, k, e, g1, g2, g3, g4, g5⟩ := f
  subst g2
  cases r
  obtain ⟨o2, hs2, b, ws, e2, h2, h3, h4, _⟩ := o'.sr.get g1
  subst e2
  rw [hs] at hs2; cases hs2
  obtain ⟨w, z1, z2⟩ := h4.get g3
  have hk : k < ws.length := (List.getElem?_eq_some_iff.mp z1).1
  exact ⟨a, ws, k, k, w, rfl, rfl, h2, by omega, by omega, seqix_nat hk, z1, q w e _ Hd' _ g5 (o'.writeOwn g1 hs (h4.erase k)) z2⟩
/-! for -/
theorem wp_for {wi : TI} {tb : TS} {ψ : List D → Prop} (Iv : List D → Nat → List Sk → Prop) (hi : EvI c wi Γ m0 ψ) (hL : ∀ ds, ψ ds → ds.length ≤ L) (h0 : ∀ ds, ψ ds → Iv ds 0 Γ)
    (hs : ∀ ds, ψ ds → ∀ i d Γ', ds[i]? = some d → Iv ds i Γ' → ∃ ps, TgD c g d ps ∧ Wp c tb (setD Γ' ps) m1 { N := Iv ds (i + 1), C := Iv ds (i + 1), B := W.N, R := W.R })
    (hd : ∀ ds, ψ ds → ∀ Γ', Iv ds ds.length Γ' → W.N Γ') : Wp c (tFor wi g tb) Γ (m0 + L * m1) W := fun Hb Hd0 H0 σ Hd H n o l x E k1 k2 k3 k4 => by
  have hm : n + m0 ≤ LIM := by have := Nat.zero_le (L * m1); omega
  refine hi σ Hd H n o.sr o.g.s o.pe hm (x.grow o.g) _ fun J ds Hd1 H1 g1 pe1 f J1 => ?_
  have hl := hL ds f
  have key : ∀ i, i ≤ ds.length → i * m1 ≤ L * m1 := fun i hi => Nat.mul_le_mul_right _ (by omega)
  have o1 := o.grow g1 pe1
  let Pv : Nat → St → Hp → Prop := fun i σx Hx => ∃ Γx Hdx, Iv ds i Γx ∧ Ok c Hd1 Hd0 H0 σx Γx Hdx Hx (n + m0 + i * m1)
  refine ⟨fun i m σx Hx => m = ds.length - i ∧ i ≤ ds.length ∧ Pv i σx Hx, ⟨ds.length, by simp, Nat.zero_le _, Γ, Hd1, h0 ds f, ⟨Same.refl _, o1.s0, o1.g, o1.sr, by rw [Nat.zero_mul]; exact o1.pe, o1.fr⟩⟩, ?_⟩
  rintro i m σx Hx ⟨rfl, hi, Γx, Hdx, ivx, ox⟩
  obtain ⟨go, stop, yld⟩ := J1 Hdx Hx ox.b ox.g.s
  have back : ∀ {σ' Γ' Hd' H' k}, Ok c Hd1 Hd0 H0 σ' Γ' Hd' H' k → Ok c Hb Hd0 H0 σ' Γ' Hd' H' k := fun o' => ⟨(o.b.trans g1.d).trans o'.b, o'.s0, o'.g, o'.sr, o'.pe, o'.fr⟩
  by_cases hlt : i < ds.length
  · refine .inr ⟨go i hlt, Pv (i + 1), fun σ' H' p' => ⟨ds.length - (i + 1), by omega, rfl, hlt, p'⟩, fun v Hy hy => ?_⟩
    have hd' : ds[i]? = some ds[i] := by simp
    obtain ⟨Hd3, g3, r3⟩ := yld i v Hy hy _ hd'
    obtain ⟨ps, tg, hb⟩ := hs ds f i _ Γx hd' ivx
    have o3 := ox.grow g3.up (ox.pe.grow g3)
    have kk := key (i + 1) hlt
    have e1 : (i + 1) * m1 = i * m1 + m1 := Nat.succ_mul _ _
    refine tg σx Hd3 Hy v Γx o3.sr o3.g.s r3 _ fun σ2 s2 _ q2 => ?_
    have o4 := o3.tg s2 q2
    refine hb Hd1 Hd0 H0 σ2 Hd3 Hy _ o4 (by omega) x _ ?_ ?_ ?_ ?_
    · intro Γ' σ' Hd' H' iv o5; exact ⟨Γ', Hd', iv, o5.more (by omega)⟩
    · intro Γ' σ' Hd' H' iv o5; exact k1 Γ' σ' Hd' H' iv (back (o5.more (by omega)))
    · intro Γ' σ' Hd' H' iv o5; exact ⟨Γ', Hd', iv, o5.more (by omega)⟩
    · intro v d Hd' H' iv g pe r; exact k4 v d Hd' H' iv g (pe.more (by omega)) r
  · have e : i = ds.length := by omega
    subst e
    have kk := key _ (Nat.le_refl ds.length)
    exact .inl ⟨stop _ (Nat.le_refl _), k1 _ _ _ _ (hd ds f Γx ivx) (back (ox.more (by omega)))⟩
end
end DL
set_option maxRecDepth 100000
set_option maxHeartbeats 4000000
/-! DLg: promises of defs that are called while nothing is being shown (A.guards = some []): FnG in the place of FnOk. -/
namespace DL
open PySem L2 PySem.Spec PyProof.Rows
variable [Tbl]
abbrev NoG (A : Around) : Prop := A.guards = some []

structure FnG (P : Program) (w : World) (K : PySem.W.Frag) (mg : Str → Option Value) (base : Heap) (CX : CXT) (k : Nat) (f : Addr) (fd : FuncData) (ps : List Str) (sp : Sp) : Prop where
  len : ∀ vs H Q E, sp vs H Q E → vs.length = ps.length
  run : ∀ (A : Around), Room k A → NoG A → ∀ (outer : List Env) (s : Shared) (H : Hp) (args : Args) (us : List Value) (vs : List V) (Q : VK) (E : XK), Env0 P w K mg base A outer s H → BindsTo s fd args (ps.zip us) → Vals vs us →
    sp vs H Q E → codeAny (model P w) A (.call (.ref f) args) (CR CX outer P w H s Q E) s
/-- a def of the text as it stands behind the top, with or without defaults -/
structure FunV (K : PySem.W.Frag) (x qual : Str) (st : Stmt) (f : Addr) (fd : FuncData) : Prop where
  ex : ∃ (oc : Value) (od : Option Addr) (dV kV doc pm : Value) (an : Option Addr) (cdv ct : Value) (osl : Array (Option Value)),
    fd = PySem.W.fnOf x qual (defArgs st) (defBody st) (defScope st) dV kV doc pm an cdv ct ∧ K.lookup f = some ⟨oc, od, .func fd, osl⟩ ∧ PySem.W.codeIn K cdv qual = true
  kp : PySem.W.keepIn K (.ref f) = true
section
variable {P : Program} {w : World} {K : PySem.W.Frag} {mg : Str → Option Value} {base : Heap} {CX : CXT} {j k : Nat} {f : Addr} {fd : FuncData} {ps N : List Str} {sp sp' : Sp} {x qual : Str} {st : Stmt}
theorem FnG.mono (F : FnG P w K mg base CX j f fd ps sp) (h : j ≤ k) : FnG P w K mg base CX k f fd ps sp := ⟨F.len, fun A r => F.run A (r.mono h)⟩
theorem FnG.imp (F : FnG P w K mg base CX k f fd ps sp) (h : ∀ vs H Q E, sp' vs H Q E → sp vs H Q E) : FnG P w K mg base CX k f fd ps sp' :=
  ⟨fun vs H Q E z => F.len _ _ _ _ (h vs H Q E z), fun A r g outer s H args us vs Q E e0 b rv z => F.run A r g outer s H args us vs Q E e0 b rv (h _ _ _ _ z)⟩
/-- a def by its body -/
theorem fng_of (F : FunV K x qual st f fd) (S : FnScope N ps (defScope st)) (len : ∀ vs H Q E, sp vs H Q E → vs.length = ps.length)
    (hbody : ∀ (cd : Value) (A : Around) (outer : List Env) (s : Shared) (H : Hp) (vs : List V) (Q : VK) (E : XK), Room k (A.deeper (envOfC qual (defScope st) s.heap.objs.size f cd)) → NoG (A.deeper (envOfC qual (defScope st) s.heap.objs.size f cd)) → sp vs H Q E →
      ∃ t, PSs (cxOf CX P w K mg base N qual (defScope st) f cd A outer s H E) (defBody st) t ∧ t { nx := fun _ H' => Q .non H', rt := Q } (L2.start N vs) H) : FnG P w K mg base CX (k + 1) f fd ps sp := by
  obtain ⟨oc, od, dV, kV, doc, pm, an, cdv, ct, osl, rfl, lk, hcd⟩ := F.ex
  refine ⟨len, fun A room ng outer s H args us vs Q E env bnd rel wish => ?_⟩
  have inK : K.In s.heap := env.mod.kin.keeps fun b o e => (env.bs b o e).1
  have noLim : s.heap.NoLimit := env.mod.nolimit.keeps fun b o e => (env.bs b o e).1
  refine codeAny_call_function room.depth (inK _ _ lk) rfl S.co S.gen rfl (PySem.W.codeRec_of inK hcd) (bnd _ _ _ _ (wpAny_newFunctionEnv_cells S.kind (fun y hy => ?_) fun env' he s1 laid => ?_))
  · rcases S.par y.1 (List.of_mem_zip hy).1 with q | q
    · exact .inl q
    · exact .inr ⟨q, PySem.W.cellsFrom_some _ _ _ (.inl q)⟩
  · subst he
    obtain ⟨t, ht, hq⟩ := hbody cdv A outer s H vs Q E (room.deeper _) ng wish
    refine ⟨noLim.keeps laid.toInCall.keep, codeAny_func ?_⟩
    refine wpAny_mono (ht.run [] s1 _ H _ (inv_start S room.hd env (len _ _ _ _ wish) rel laid) hq) (fun flow s' got => ?_) fun _ _ got => got
    cases flow with
    | ret u => obtain ⟨v, _, H', J, rv, z⟩ := got; exact ⟨v, H', J.os, J.bare, J.base, J.hok, rv, z⟩
    | next => obtain ⟨_, H', J, z⟩ := got; exact ⟨V.non, H', J.os, J.bare, J.base, J.hok, rfl, z⟩
    | brk => obtain ⟨_, _, _, z⟩ := got; exact z.elim
    | cont => obtain ⟨_, _, _, z⟩ := got; exact z.elim
end
section
variable {X : Cx} {CX : CXT} {k : Nat} {f C : Addr} {fd : FuncData} {ps : List Str} {sp : Sp} {E : XK} {x m : Str} {p pos apos : Pos} {e o : Expr} {es : List Expr} {ta : TE} {t : TA} {ds : List Value} {dvs : List V}
theorem rung {pins : List (Addr × Obj)} {σ : L2.St} {H : Hp} {s : Shared} {Q : VK} {us : List Value} {vs : List V} (F : FnG X.prog X.w X.K X.mg X.base CX k f fd ps sp) (hr : Room k X.A) (ng : NoG X.A) (hb : Binds X.K fd ps ds) (hd : Vals dvs ds) (hx : Passes CX X E)
    (I : L2.Inv X pins σ H s) (r : Vals vs us) (h : sp (vs ++ dvs) H Q E) : wpAny (model X.prog X.w) X.A (call (.ref f) us) (EP X pins σ Q) X.xe s := by
  have both := r.append hd
  have same : (us ++ ds).length = ps.length := both.length.symm.trans (F.len _ _ _ _ h)
  refine wpAny_call (codeAny_mono (F.run X.A hr ng X.stack s H ⟨us, []⟩ _ _ Q E I.env0 (hb s us I.kIn same) both h) fun res s' got => ?_)
  cases res with
  | error er => exact hx pins σ H s er s' I got
  | ok flow => cases flow with
    | ret u => exact I.after got
    | next => exact got.elim
    | brk => exact got.elim
    | cont => exact got.elim
/-- f(a, ..) -/
theorem peg_call (F : FnG X.prog X.w X.K X.mg X.base CX k f fd ps sp) (hr : Room k X.A) (ng : NoG X.A) (hg : Gl X x) (hm : X.mg x = some (.ref f)) (hk : PySem.W.keepIn X.K (.ref f) = true) (hb : Binds X.K fd ps ds) (hd : Vals dvs ds) (hx : Passes CX X E) (ha : PA X (e :: es) t)
    (h1 : (x == ("__debug__" : Str)) = false := by decide) (h2 : starEach (e :: es) X.env = (false, eval e X.env) :: starEach es X.env := by rfl) (h3 : (backTo pos (starEach es X.env)).any (·.1) = false := by rfl) : PE X (.Call (.Name x p) (e :: es) [] pos) (tCall sp dvs E t) := by
  refine ⟨fun pins s0 σ0 Hp0 Qq Iv hw => wpAny_Call_Name_kw (ld_glob Iv hg hm ?_ h1)⟩
  refine PySem.W.callWith_K (h₀ := X.base) Iv.ok.mod.kin hk (thn (ha.run pos pins s0 σ0 Hp0 _ Iv hw) fun us st got => ?_) h2 h3
  obtain ⟨vs, Hx, Ix, rx, qx⟩ := got
  exact ⟨Ix.kIn, rung F hr ng hb hd hx Ix rx qx⟩
/-- f() -/
theorem peg_call0 (F : FnG X.prog X.w X.K X.mg X.base CX k f fd ps sp) (hr : Room k X.A) (ng : NoG X.A) (hg : Gl X x) (hm : X.mg x = some (.ref f)) (hk : PySem.W.keepIn X.K (.ref f) = true) (hb : Binds X.K fd ps ds) (hd : Vals dvs ds) (hx : Passes CX X E)
    (h1 : (x == ("__debug__" : Str)) = false := by decide) : PE X (.Call (.Name x p) [] [] pos) (tCall sp dvs E tNil) := by
  refine ⟨fun pins s0 σ0 Hp0 Qq Iv hw => wpAny_Call_Name_kw (ld_glob Iv hg hm ?_ h1)⟩
  exact PySem.W.callWith_K0 Iv.kIn hk (rung F hr ng hb hd hx Iv .nil hw)
end
/-! ### the end of a law -/
section
variable {P : Program} {w : World} {K : PySem.W.Frag} {mg mb : Str → Option Value} {k : Nat} {fa a : Addr} {fd : FuncData} {x : Str} {sp : Sp} {s₁ : Shared} {vs : List Value} {ns : List Int}
theorem law_coreG {H : Hp} (KX : K.In s₁.heap) (hns : s₁.heap.Ns mainGlobals mg) (hb : s₁.heap.Ns builtinsNs mb) (hbb : ∀ x : Str, x ≠ "__name__" → mb x = bootBuiltins x) (hlim : s₁.heap.NoLimit) (hg : s₁.gens = #[])
    (ha : s₁.heap.get? a = some { cls := .type "list", data := .seq vs.toArray }) (hr : Room k callerA) (F : ∀ base : Heap, K.In base → base.Ns mainGlobals mg → FnG P w K mg base CX0 k fa fd [x] sp) (hbind : ∀ (s : Shared) (u : Value), BindsTo s fd ⟨[u], []⟩ [(x, u)])
    (hO : Only H) (hS : sp [.ref a] H (fun v _ => v = .bl true) fun _ _ _ => False) (hok : HOk P w H s₁.heap) (hA : ∀ b, H b ≠ none → b = a) (hK : H a ≠ none → K.lookup a = none) :
    codeAny (model P w) callerA (.call (.ref fa) ⟨[.ref a], []⟩) (fun r s' => r = .ok (.ret (.bool true)) ∧ OldK s₁.heap s'.heap ∧ s'.os = s₁.os ∧ AllBare s'.gens) s₁ := by
  have plain : ∀ {b : Addr} {u : HO}, H b = some u → b = a := fun {b u} z => hA b (by rw [z]; exact fun q => nomatch q)
  have under : ∀ {b : Addr} {mm : Str → Option Value}, s₁.heap.Ns b mm → (hidT s₁.heap H).Ns b mm := fun {b mm} z => by
    obtain ⟨ob, es, ep, z1, z2, z3⟩ := z
    refine ⟨ob, es, ep, hidT_get z1 ?_, z2, z3⟩
    cases q : H b with
    | none => rfl
    | some u =>
      rw [plain q, ha] at z1
      cases z1
      cases z2
  have kin : K.In (hidT s₁.heap H) := fun b ob z => by
    refine hidT_get (KX b ob z) ?_
    cases q : H b with
    | none => rfl
    | some u =>
      have eb := plain q
      subst eb
      rw [hK (by rw [q]; exact fun y => nomatch y)] at z
      cases z
  obtain ⟨mc, l1, l2⟩ := hlim
  have env : Env0 P w K mg (hidT s₁.heap H) callerA [] s₁ H := ⟨rfl, ⟨kin, under hns, ⟨mb, under hb, hbb⟩, mc, under l1, l2⟩, fun b ob z => of_hidT z, Nat.le_of_eq (hidT_size _ _), trivial, fun b z => (List.not_mem_nil z).elim, hok, .of_eq hg⟩
  refine codeAny_mono ((F _ kin (under hns)).run callerA hr rfl [] s₁ H ⟨[.ref a], []⟩ [.ref a] [.ref a] _ _ env (hbind s₁ (.ref a)) (.cons rfl .nil) hS) fun res s' got => ?_
  cases res with
  | error er => exact got.elim
  | ok flow => cases flow with
    | next => exact got.elim
    | brk => exact got.elim
    | cont => exact got.elim
    | ret u =>
      obtain ⟨v, H2, hos, hbare, un, hok2, rv, isT⟩ := got
      have isT' : v = .bl true := isT
      subst isT'
      cases rv
      refine ⟨rfl, OldK.of_keep fun b ob z => ?_, hos, hbare⟩
      rcases hO b with q | ⟨o2, xs, q⟩
      · exact un.keep b ob z q (fun y => (List.not_mem_nil y).elim) fun y => (List.not_mem_nil y).elim
      · obtain ⟨z1, _⟩ := hok b _ q
        obtain ⟨z2, _⟩ := hok2 b _ (un.frzs b o2 _ q)
        rw [z] at z1
        cases z1
        exact z2
theorem law_callG (KX : K.In s₁.heap) (hns : s₁.heap.Ns mainGlobals mg) (hb : s₁.heap.Ns builtinsNs mb) (hbb : ∀ x : Str, x ≠ "__name__" → mb x = bootBuiltins x) (hlim : s₁.heap.NoLimit) (hg : s₁.gens = #[])
    (ha : s₁.heap.get? a = some { cls := .type "list", data := .seq vs.toArray }) (hi : IntsAre vs ns) (hl : ns.length ≤ sizeLine) (hr : Room k callerA) (F : ∀ base : Heap, K.In base → base.Ns mainGlobals mg → FnG P w K mg base CX0 k fa fd [x] sp) (hbind : ∀ (s : Shared) (u : Value), BindsTo s fd ⟨[u], []⟩ [(x, u)])
    (hsp : ∀ H : Hp, Only H → SqL K H a (ns.map V.int) → sp [.ref a] H (fun v _ => v = .bl true) fun _ _ _ => False) :
    codeAny (model P w) callerA (.call (.ref fa) ⟨[.ref a], []⟩) (fun r s' => r = .ok (.ret (.bool true)) ∧ OldK s₁.heap s'.heap ∧ s'.os = s₁.os ∧ AllBare s'.gens) s₁ := by
  have rel := vals_ints hi
  have cnt := hi.length
  cases look : K.lookup a with
  | some ob =>
    have same := (KX a ob look).symm.trans ha
    cases same
    have only : Only (fun _ => none) := fun _ => .inl rfl
    have inK : SqL K (fun _ => none) a (ns.map V.int) := .inr ⟨_, vs.toArray, _, look, rfl, rfl, rfl, by rw [List.size_toArray, cnt]; exact hl, by simpa using rel⟩
    exact law_coreG KX hns hb hbb hlim hg ha hr F hbind only (hsp _ only inK) (fun b u z => nomatch z) (fun b z => absurd rfl z) fun z => absurd rfl z
  | none =>
    let Hs : Hp := fun b => if b = a then some (.frz { cls := .type "list", data := .seq vs.toArray } (.lst (ns.map V.int))) else none
    have at_ : Hs a = some (.frz { cls := .type "list", data := .seq vs.toArray } (.lst (ns.map V.int))) := if_pos rfl
    have off : ∀ b, b ≠ a → Hs b = none := fun b z => if_neg z
    have only : Only Hs := fun b => by
      by_cases q : b = a
      · subst q; exact .inr ⟨_, _, at_⟩
      · exact .inl (off b q)
    refine law_coreG KX hns hb hbb hlim hg ha hr F hbind only (hsp _ only (.inl (.inr ⟨_, at_⟩))) (fun b u z => ?_) (fun b z => ?_) fun _ => look
    · by_cases q : b = a
      · subst q
        rw [at_] at z
        cases z
        exact ⟨ha, by rw [List.length_map]; exact hl, vs, _, rel, ha⟩
      · rw [off b q] at z; cases z
    · by_cases q : b = a
      · exact q
      · exact absurd (off b q) z
end
theorem walk_ofG {l : PySem.W.OpenLaw} {n k : Nat} {q : Program} {loose : List Str} {XP : (Str → Option Value) → Heap → Prop} {YP : World → Heap → Prop} {d : DefRec} {K : Params → PySem.W.Frag} {sp : PySem.W.Frag → Sp} {x : Str} (hn : l.most = some n) (hn2 : n ≤ sizeLine) (hdf : d.params.defaults = []) (hr : Room k callerA)
    (hY : ∀ (w : World) (h : Heap), YP w h → (K w.params).In h)
    (F : ∀ (w : World) (mg : Str → Option Value) (fa : Addr) (h : Heap), (K w.params).In h → h.Ns mainGlobals mg → mg d.name = some (.ref fa) → ∃ fd : FuncData, (∀ (s : Shared) (u : Value), BindsTo s fd ⟨[u], []⟩ [(x, u)]) ∧
        ∀ base : Heap, (K w.params).In base → base.Ns mainGlobals mg → FnG l.prog w (K w.params) mg base CX0 k fa fd [x] (sp (K w.params)))
    (hsp : ∀ (K : PySem.W.Frag) (H : Hp) (a : Addr) (ns : List Int), ns.length ≤ n → Only H → SqL K H a (ns.map V.int) → sp K [.ref a] H (fun v _ => v = .bl true) fun _ _ _ => False) :
    PySem.W.WalkO q loose XP YP l.row.toRowW d [] (fun f vs => PySem.call f vs) := by
  refine Att.attach_call hn hdf fun w s₀ s₁ mg mb fa o pm cd doc a vs ns G Y ho hd hcd hmg hobj hints hlen hg => ?_
  have inK := hY w _ Y
  obtain ⟨fd, hb, hF⟩ := F w mg fa _ inK G.T.g hmg
  exact law_callG inK G.T.g G.T.b G.T.builtins G.T.nolimit hg hobj hints (Nat.le_trans hlen hn2) hr hF hb fun H h1 h2 => hsp _ H a ns hlen h1 h2
end DL
set_option maxRecDepth 100000
set_option maxHeartbeats 4000000
/-! DL6: promises over data, calls, a def's own theorem. -/
namespace DL
open PySem L2
variable [Tbl]

/-- a def that only reads data and hands data back -/
def SpP (K : PySem.W.Frag) (pre : List D → Prop) (post : List D → D → Prop) : Sp := fun vs H Q _ => ∃ Hd ds, Same Hd H ∧ Reps K Hd vs ds ∧ pre ds ∧ ∀ v d Hd' H', Grow none Hd H Hd' H' → post ds d → Rep K Hd' v d → Q v H'
/-- .. and may raise -/
def SpX (K : PySem.W.Frag) (pre : List D → Prop) (post : List D → D → Prop) (χ : List D → Addr → List (Str × D) → Prop) : Sp := fun vs H Q E => ∃ Hd ds, Same Hd H ∧ Reps K Hd vs ds ∧ pre ds ∧
  (∀ v d Hd' H', Grow none Hd H Hd' H' → post ds d → Rep K Hd' v d → Q v H') ∧ ∀ C dx fs Hd' H', Grow none Hd H Hd' H' → χ ds C fs → XAt K Hd' H' dx fs → E (.ref C) (some dx) H'
/-- a def that draws by the pen, its first argument -/
def SpG (K : PySem.W.Frag) (m : Nat) (pre : List D → Prop) (post : List D → D → Prop) : Sp := fun vs H Q _ => ∃ a cc vs' Hd ds n, vs = .ref a :: vs' ∧ Same Hd H ∧ PenAt n Hd H a cc ∧ n + m ≤ LIM ∧ Reps K Hd vs' ds ∧ pre ds ∧
  ∀ v d Hd' H', Grow (some a) Hd H Hd' H' → PenAt (n + m) Hd' H' a cc → post ds d → Rep K Hd' v d → Q v H'

section
variable {c : Ct} {Γ : List Sk} {m m1 : Nat} {φ : D → Prop} {ta : TA} {ψ : List D → Prop} {pre : List D → Prop} {post : List D → D → Prop} {χ : List D → Addr → List (Str × D) → Prop} {E : XK} {i : Nat}
theorem ev_call {K : PySem.W.Frag} (hK : K = c.K) (h : EvA c ta Γ m ψ) (hp : ∀ ds, ψ ds → pre ds) (hq : ∀ ds d, ψ ds → post ds d → φ d) : Ev c (tCall (SpP K pre post) [] E ta) Γ m φ := fun σ Hd H n s sa pe l x Q q =>
  h σ Hd H n s sa pe l x _ fun vs ds Hd1 H1 g1 pe1 f r => by
    subst hK
    refine ⟨Hd1, ds, g1.s, by rw [List.append_nil]; exact r, hp ds f, fun v d Hd2 H2 g2 f2 r2 => q v d Hd2 H2 (g1.trans g2.up) (pe1.grow g2) (hq ds d f f2) r2⟩
theorem ev_call_ {K : PySem.W.Frag} {ds : List D} {r : D} (h : EvA c ta Γ m (· = ds)) (hp : pre ds) (hq : ∀ d, post ds d → d = r) (hK : K = c.K := by rfl) : Ev c (tCall (SpP K pre post) [] E ta) Γ m (· = r) := ev_call hK h (fun _ e => by rw [e]; exact hp) fun _ d e q => by rw [e] at q; exact hq d q
theorem ev_callX {K : PySem.W.Frag} (hK : K = c.K) (hE : E = c.E) (h : EvA c ta Γ m ψ) (hp : ∀ ds, ψ ds → pre ds) (hq : ∀ ds d, ψ ds → post ds d → φ d) (hx : ∀ ds C fs, ψ ds → χ ds C fs → c.χ C fs) : Ev c (tCall (SpX K pre post χ) [] E ta) Γ m φ := fun σ Hd H n s sa pe l x Q q =>
  h σ Hd H n s sa pe l x _ fun vs ds Hd1 H1 g1 pe1 f r => by
    subst hK
    subst hE
    exact ⟨Hd1, ds, g1.s, by rw [List.append_nil]; exact r, hp ds f, fun v d Hd2 H2 g2 f2 r2 => q v d Hd2 H2 (g1.trans g2.up) (pe1.grow g2) (hq ds d f f2) r2, fun C dx fs Hd2 H2 g2 f2 x2 => x C dx fs Hd2 H2 (g1.trans g2.up) (hx ds C fs f f2) x2⟩
/-- a call that cannot raise here -/
theorem ev_callX0 {K : PySem.W.Frag} (hK : K = c.K) (h : EvA c ta Γ m ψ) (hp : ∀ ds, ψ ds → pre ds) (hq : ∀ ds d, ψ ds → post ds d → φ d) (hx : ∀ ds C fs, ψ ds → ¬ χ ds C fs) : Ev c (tCall (SpX K pre post χ) [] E ta) Γ m φ := fun σ Hd H n s sa pe l x Q q =>
  h σ Hd H n s sa pe l x _ fun vs ds Hd1 H1 g1 pe1 f r => by
    subst hK
    exact ⟨Hd1, ds, g1.s, by rw [List.append_nil]; exact r, hp ds f, fun v d Hd2 H2 g2 f2 r2 => q v d Hd2 H2 (g1.trans g2.up) (pe1.grow g2) (hq ds d f f2) r2, fun C dx fs Hd2 H2 g2 f2 x2 => absurd f2 (hx ds C fs f)⟩
theorem ev_callG {K : PySem.W.Frag} {k : Nat} (hK : K = c.K) (hi : Γ[i]? = some .pen) (h : EvA c ta Γ m ψ) (hp : ∀ ds, ψ ds → pre ds) (hq : ∀ ds d, ψ ds → post ds d → φ d) : Ev c (tCall (SpG K k pre post) [] E (tCons (tVar i) ta)) Γ (m + k) φ := fun σ Hd H n s sa pe l x Q q => by
  obtain ⟨o, hs, a, e, ep⟩ := s.get hi
  subst e
  refine ⟨_, hs, h σ Hd H n s sa pe (by omega) x _ fun vs ds Hd1 H1 g1 pe1 f r => ?_⟩
  subst hK
  cases hcp : c.p with
  | none => rw [hcp] at ep; cases ep
  | some ac =>
    obtain ⟨a', cc⟩ := ac
    rw [hcp] at ep pe1
    have ea : a' = a := by simpa using ep
    subst ea
    refine ⟨a', cc, vs, Hd1, ds, n + m, by rw [List.append_nil], g1.s, pe1, by omega, r, hp ds f, fun v d Hd2 H2 g2 p2 f2 r2 => q v d Hd2 H2 (g1.trans (by rw [hcp]; exact g2)) (by rw [hcp, ← Nat.add_assoc]; exact p2) (hq ds d f f2) r2⟩
theorem ev_callG_ {K : PySem.W.Frag} {k : Nat} {ds : List D} (h : EvA c ta Γ m (· = ds)) (hp : pre ds) (hi : Γ[i]? = some .pen := by rfl) (hK : K = c.K := by rfl) : Ev c (tCall (SpG K k pre post) [] E (tCons (tVar i) ta)) Γ (m + k) (post ds) := ev_callG hK hi h (fun _ e => by rw [e]; exact hp) fun _ d e q => by rw [e] at q; exact q
end

/-! ### a def's own theorem -/
def G0 (N : List Str) (ds : List D) : List Sk := ds.map .dat ++ List.replicate (N.length - ds.length) .un
def G1 (N : List Str) (ds : List D) : List Sk := .pen :: (ds.map .dat ++ List.replicate (N.length - 1 - ds.length) .un)
theorem sr_start {K : PySem.W.Frag} {p : Pn} {Hd H : Hp} {N : List Str} {vs : List V} {ds : List D} (r : Reps K Hd vs ds) : SR K p Hd H (L2.start N vs) (G0 N ds) := by
  have hl := r.length
  refine ⟨by unfold L2.start G0; simp [hl], fun i o k h1 h2 => ?_, fun i j k1 k2 l ne h1 o1 h2 o2 => ?_⟩
  · unfold L2.start at h1; unfold G0 at h2
    by_cases q : i < vs.length
    · rw [List.getElem?_append_left (by simpa using q)] at h1
      rw [List.getElem?_append_left (by simp; omega)] at h2
      rw [List.getElem?_map] at h1 h2
      cases e1 : vs[i]? with
      | none => rw [e1] at h1; cases h1
      | some v =>
        obtain ⟨d, e2, rr⟩ := r.get' e1
        rw [e1] at h1; rw [e2] at h2
        cases h1; cases h2
        exact ⟨v, rfl, rr⟩
    · rw [List.getElem?_append_right (by simp; omega)] at h2
      rw [List.getElem?_replicate] at h2
      split at h2 <;> cases h2
      exact True.intro
  · unfold G0 at h1
    by_cases q : i < ds.length
    · rw [List.getElem?_append_left (by simpa using q), List.getElem?_map] at h1
      cases e1 : ds[i]? with
      | none => rw [e1] at h1; cases h1
      | some v => rw [e1] at h1; cases h1; cases o1
    · rw [List.getElem?_append_right (by simp; omega), List.getElem?_replicate] at h1
      split at h1 <;> cases h1
      cases o1
theorem G0_own {N : List Str} {ds : List D} {i : Nat} {k : Sk} (h : (G0 N ds)[i]? = some k) : k.isOwn = false := by
  unfold G0 at h
  by_cases q : i < ds.length
  · rw [List.getElem?_append_left (by simpa using q), List.getElem?_map] at h
    cases e1 : ds[i]? with
    | none => rw [e1] at h; cases h
    | some v => rw [e1] at h; cases h; rfl
  · rw [List.getElem?_append_right (by simp; omega), List.getElem?_replicate] at h
    split at h <;> cases h
    rfl
theorem sr_start1 {K : PySem.W.Frag} {a cc : Addr} {Hd H : Hp} {N : List Str} {vs : List V} {ds : List D} (r : Reps K Hd vs ds) : SR K (some (a, cc)) Hd H (L2.start N (.ref a :: vs)) (G1 N ds) := by
  have hl := r.length
  have e : L2.start N (.ref a :: vs) = some (.ref a) :: L2.start (N.drop 1) vs := by
    unfold L2.start
    simp only [List.map_cons, List.cons_append, List.length_cons, List.length_drop]
    congr 3
    omega
  have e2 : G1 N ds = .pen :: G0 (N.drop 1) ds := by unfold G1 G0; rw [List.length_drop]
  rw [e, e2]
  have s := sr_start (K := K) (p := some (a, cc)) (Hd := Hd) (H := H) (N := N.drop 1) r
  refine ⟨by rw [List.length_cons, List.length_cons, s.len], fun i o k h1 h2 => ?_, fun i j k1 k2 l ne h1 o1 h2 o2 => ?_⟩
  · cases i with
    | zero => cases h1; cases h2; exact ⟨a, rfl, rfl⟩
    | succ i => exact s.ok i o k h1 h2
  · cases i with
    | zero => cases h1; cases o1
    | succ i => rw [G0_own (show (G0 (N.drop 1) ds)[i]? = some k1 from h1)] at o1; cases o1
theorem G1_own {N : List Str} {ds : List D} {i : Nat} {k : Sk} (h : (G1 N ds)[i]? = some k) : k.isOwn = false := by
  have e2 : G1 N ds = .pen :: G0 (N.drop 1) ds := by unfold G1 G0; rw [List.length_drop]
  rw [e2] at h
  cases i with
  | zero => cases h; rfl
  | succ i => exact G0_own (show (G0 (N.drop 1) ds)[i]? = some k from h)

section
variable {P : Program} {w : World} {K : PySem.W.Frag} {mg : Str → Option Value} {base : Heap} {x qual : Str} {st : Stmt} {f : Addr} {fd : FuncData} {N ps : List Str} {k m : Nat} {pre : List D → Prop} {post : List D → D → Prop} {χ : List D → Addr → List (Str × D) → Prop}
theorem fn_P (F : FunV K x qual st f fd) (S : FnScope N ps (defScope st)) (hl : ∀ ds, pre ds → ds.length = ps.length)
    (hb : ∀ (cdv : Value) (A : Around) (outer : List Env) (s : Shared) (H : Hp) (E : XK), Room k (A.deeper (PyProof.Rows.envOfC qual (defScope st) s.heap.objs.size f cdv)) → NoG (A.deeper (PyProof.Rows.envOfC qual (defScope st) s.heap.objs.size f cdv)) → ∀ ds, pre ds →
      ∃ t, PSs (cxOf CX0 P w K mg base N qual (defScope st) f cdv A outer s H E).nox (defBody st) t ∧ ∀ p, Wp ⟨K, p, E0, fun _ _ => False⟩ t (G0 N ds) 0 (retW (post ds))) :
    FnG P w K mg base CX0 (k + 1) f fd ps (SpP K pre post) := by
  refine fng_of F S (fun vs H Q E h => ?_) (fun cdv A outer s H vs Q E hr ng h => ?_)
  · obtain ⟨Hd, ds, sa, r, hp, _⟩ := h
    rw [r.length, hl ds hp]
  · obtain ⟨Hd, ds, sa, r, hp, q⟩ := h
    obtain ⟨t, ht, hw⟩ := hb cdv A outer s H E hr ng ds hp
    refine ⟨t, ht.nox, hw none Hd Hd H _ Hd H 0 ⟨Same.refl _, sa, .refl sa, sr_start r, True.intro, fun i k' l h1 h2 _ => by rw [G0_own h1] at h2; cases h2⟩ (by decide) (fun _ _ _ _ _ _ hh _ => hh.elim) _ ?_ ?_ ?_ ?_⟩
    · intro Γ' σ' Hd' H' n o; exact q .non .non Hd' H' o.g n .non
    · intro _ _ _ _ z; exact z.elim
    · intro _ _ _ _ z; exact z.elim
    · intro v d Hd' H' n g _ r'; exact q v d Hd' H' g n r'
theorem fn_G (F : FunV K x qual st f fd) (S : FnScope N ps (defScope st)) (hl : ∀ ds, pre ds → ds.length + 1 = ps.length)
    (hb : ∀ (cdv : Value) (A : Around) (outer : List Env) (s : Shared) (H : Hp) (E : XK), Room k (A.deeper (PyProof.Rows.envOfC qual (defScope st) s.heap.objs.size f cdv)) → NoG (A.deeper (PyProof.Rows.envOfC qual (defScope st) s.heap.objs.size f cdv)) → ∀ ds, pre ds →
      ∃ t, PSs (cxOf CX0 P w K mg base N qual (defScope st) f cdv A outer s H E).nox (defBody st) t ∧ ∀ a cc, Wp ⟨K, some (a, cc), E0, fun _ _ => False⟩ t (G1 N ds) m (retW (post ds))) :
    FnG P w K mg base CX0 (k + 1) f fd ps (SpG K m pre post) := by
  refine fng_of F S (fun vs H Q E h => ?_) (fun cdv A outer s H vs Q E hr ng h => ?_)
  · obtain ⟨a, cc, vs', Hd, ds, n, rfl, sa, pe, hn, r, hp, _⟩ := h
    rw [List.length_cons, r.length, hl ds hp]
  · obtain ⟨a, cc, vs', Hd, ds, n, rfl, sa, pe, hn, r, hp, q⟩ := h
    obtain ⟨t, ht, hw⟩ := hb cdv A outer s H E hr ng ds hp
    refine ⟨t, ht.nox, hw a cc Hd Hd H _ Hd H n ⟨Same.refl _, sa, .refl sa, sr_start1 r, pe, fun i k' l h1 h2 _ => by rw [G1_own h1] at h2; cases h2⟩ hn (fun _ _ _ _ _ _ hh _ => hh.elim) _ ?_ ?_ ?_ ?_⟩
    · intro Γ' σ' Hd' H' n o; exact q .non .non Hd' H' o.g o.pe n .non
    · intro _ _ _ _ z; exact z.elim
    · intro _ _ _ _ z; exact z.elim
    · intro v d Hd' H' n g pe' r'; exact q v d Hd' H' g pe' n r'
end
end DL
set_option maxRecDepth 100000
set_option maxHeartbeats 4000000
/-! DL7: operations on data. -/
namespace DL
open PySem L2 PyProof.Rows
variable [Tbl]

/-! ### data as the library's data -/
mutual
def D.py : D → PyData
  | .non => .none | .bl b => .bool b | .int i => .int i | .str s => .str s
  | .lst ds => .list (D.pys ds) | .tup ds => .tuple (D.pys ds)
  | .dct _ _ => .none | .dcf _ _ => .none | .dtf _ _ => .none | .obj _ _ _ => .none | .exc _ _ _ _ => .none | .ptr _ => .none | .err _ _ _ => .none
def D.pys : List D → List PyData
  | [] => []
  | d :: ds => D.py d :: D.pys ds
end
mutual
/-- plain data: no dicts, no objects -/
def D.plain : D → Bool
  | .lst ds => D.plains ds | .tup ds => D.plains ds
  | .dct _ _ => false | .dcf _ _ => false | .dtf _ _ => false | .obj _ _ _ => false | .exc _ _ _ _ => false | .ptr _ => false | .err _ _ _ => false
  | _ => true
def D.plains : List D → Bool
  | [] => true
  | d :: ds => D.plain d && D.plains ds
end
mutual
theorem Rep.dp {K : PySem.W.Frag} {H : Hp} : ∀ {v : V} {d : D}, d.plain = true → Rep K H v d → Dp K H v d.py
  | _, _, _, .non => .non
  | _, _, _, .bl b => .bl b
  | _, _, _, .int i => .int i
  | _, _, _, .str x => .str x
  | _, .lst ds, p, .lst h r => .lst (SqL.of h) (Reps.dp p r)
  | _, .tup ds, p, .tup h r => .tup h (Reps.dp p r)
  | _, .dct _ _, p, _ => absurd (show false = true from p) (by decide)
  | _, .dcf _ _, p, _ => absurd (show false = true from p) (by decide)
  | _, .dtf _ _, p, _ => absurd (show false = true from p) (by decide)
  | _, .obj _ _ _, p, _ => absurd (show false = true from p) (by decide)
  | _, .exc _ _ _ _, p, _ => absurd (show false = true from p) (by decide)
  | _, .ptr _, p, _ => absurd (show false = true from p) (by decide)
  | _, .err _ _ _, p, _ => absurd (show false = true from p) (by decide)
theorem Reps.dp {K : PySem.W.Frag} {H : Hp} : ∀ {vs : List V} {ds : List D}, D.plains ds = true → Reps K H vs ds → DpAll K H vs (D.pys ds)
  | _, _, _, .nil => .nil
  | _, d :: ds, p, .cons h r => by
    have p' := Bool.and_eq_true_iff.mp (show (D.plain d && D.plains ds) = true from p)
    exact .cons (Rep.dp p'.1 h) (Reps.dp p'.2 r)
end
/-- data that == may be asked of -/
def D.ok (d : D) : Bool := d.plain && SeqAt.shaped d.py
theorem D.ok_plain {d : D} (h : d.ok = true) : d.plain = true := (Bool.and_eq_true_iff.mp h).1
theorem D.ok_shaped {d : D} (h : d.ok = true) : SeqAt.shaped d.py = true := (Bool.and_eq_true_iff.mp h).2
def D.eqv (a b : D) : Bool := PyData.eqv a.py b.py
/-- a flat thing -/
def D.flat : D → Bool
  | .non => true | .bl _ => true | .int _ => true | .str _ => true | _ => false
def D.v : D → V
  | .non => .non | .bl b => .bl b | .int i => .int i | .str s => .str s | _ => .non
theorem Rep.flat {K : PySem.W.Frag} {H : Hp} {v : V} {d : D} (f : d.flat = true) (r : Rep K H v d) : v = d.v := by
  cases r <;> first | rfl | cases f
theorem Reps.flat {K : PySem.W.Frag} {H : Hp} : ∀ {vs : List V} {ds : List D}, ds.all D.flat = true → Reps K H vs ds → vs = ds.map D.v
  | _, _, _, .nil => rfl
  | _, d :: ds, f, .cons h r => by
    rw [List.all_cons, Bool.and_eq_true] at f
    rw [Rep.flat f.1 h, Reps.flat f.2 r]; rfl
theorem flat_v {d : D} (f : d.flat = true) : flatV d.v = true := by cases d <;> first | rfl | cases f
theorem flat_vs : ∀ {ds : List D}, ds.all D.flat = true → (ds.map D.v).all flatV = true
  | [], _ => rfl
  | d :: ds, f => by
    rw [List.all_cons, Bool.and_eq_true] at f
    rw [List.map_cons, List.all_cons, flat_v f.1, flat_vs f.2]; rfl
/-- the class of a value -/
def D.ty : D → String
  | .non => "NoneType" | .bl _ => "bool" | .int _ => "int" | .str _ => "str" | .lst _ => "list" | .tup _ => "tuple" | .dct _ _ => "dict" | .dcf _ _ => "object" | .dtf _ _ => "object" | .obj _ _ _ => "object" | .exc _ _ _ _ => "object" | .ptr _ => "object" | .err _ _ _ => "object"
def D.builtin : D → Bool
  | .obj _ _ _ => false | .exc _ _ _ _ => false | .ptr _ => false | .err _ _ _ => false | .dcf _ _ => false | .dtf _ _ => false | _ => true
theorem rep_ty {K : PySem.W.Frag} {Hd H : Hp} {v : V} {d : D} (s : Same Hd H) (b : d.builtin = true) (r : Rep K Hd v d) : TyX K H v (.type d.ty) := by
  cases r with
  | non => exact .base .non
  | bl k => exact .base (.bl k)
  | int k => exact .base (.int k)
  | str k => exact .base (.str k)
  | lst h r => exact .base (.lst (s _ _ h))
  | tup h r =>
    rcases h with (h | ⟨o, h⟩) | ⟨o, its, n, h, hc, _⟩
    · exact .base (.tup (s _ _ h))
    · exact .fTuple (s _ _ h)
    · exact .kTuple h hc
  | dct h _ _ => exact .base (.dK (s _ _ h))
  | dcf => cases b
  | dtf => cases b
  | obj _ _ _ => cases b
  | exc => cases b
  | ptr => cases b
  | err => cases b
  | err0 => cases b

section
variable {c : Ct} {φ : D → Prop}
theorem o2_c {r : R2} {a b d : D} (h : ∀ x y Hd H, Same Hd H → Rep c.K Hd x a → Rep c.K Hd y b → ∃ v, (∀ Q : VK, Q v H → r x y H Q) ∧ Rep c.K Hd v d) : Op2 c r a b (· = d) := fun x y Hd H s ra rb Q q => by
  obtain ⟨v, h1, h2⟩ := h x y Hd H s ra rb
  exact h1 Q (q v d Hd H (.refl s) rfl h2)
/-! ints -/
theorem o2_I {g : Int → Int → Int} {i j : Int} : Op2 c (rI0 fun i j => .int (g i j)) (.int i) (.int j) (· = .int (g i j)) := o2_c fun x y Hd H s ra rb => by
  cases ra; cases rb
  exact ⟨_, fun Q q => ⟨i, j, rfl, rfl, q⟩, .int _⟩
theorem o2_B {g : Int → Int → Bool} {i j : Int} : Op2 c (rI0 fun i j => .bl (g i j)) (.int i) (.int j) (· = .bl (g i j)) := o2_c fun x y Hd H s ra rb => by
  cases ra; cases rb
  exact ⟨_, fun Q q => ⟨i, j, rfl, rfl, q⟩, .bl _⟩
theorem o2_IC {C : Int → Int → Prop} {g : Int → Int → Int} {i j : Int} (hc : C i j) : Op2 c (rI C fun i j => .int (g i j)) (.int i) (.int j) (· = .int (g i j)) := o2_c fun x y Hd H s ra rb => by
  cases ra; cases rb
  exact ⟨_, fun Q q => ⟨i, j, rfl, rfl, hc, q⟩, .int _⟩
/-! + of anything -/
def rAddU (K : PySem.W.Frag) : R2 := fun x y H Q => rI0 (fun i j => .int (i + j)) x y H Q ∨ (∃ i j, x = .str i ∧ y = .str j ∧ i.length + j.length ≤ sizeLine ∧ Q (.str (i ++ j)) H) ∨ rCatA K x y H Q ∨ rCat x y H Q
theorem op_addU {X : Cx} : OpR X (binaryOp .Add) (rAddU X.K) := OpR.or op_add (OpR.or op_add_str (OpR.or op_catA op_cat))
theorem o2_addI {i j : Int} : Op2 c (rAddU c.K) (.int i) (.int j) (· = .int (i + j)) := fun x y Hd H s ra rb Q q => .inl (o2_I x y Hd H s ra rb Q q)
theorem o2_addS {i j : Str} (h : i.length + j.length ≤ 1000000) : Op2 c (rAddU c.K) (.str i) (.str j) (· = .str (i ++ j)) := o2_c fun x y Hd H s ra rb => by
  cases ra; cases rb
  exact ⟨_, fun Q q => .inr (.inl ⟨i, j, rfl, rfl, by rw [sizeLine_eq]; omega, q⟩), .str _⟩
theorem o2_addT {ds es : List D} (h : ds.length + es.length ≤ 1000000) : Op2 c (rAddU c.K) (.tup ds) (.tup es) (· = .tup (ds ++ es)) := fun x y Hd H s ra rb Q q => by
  cases ra with | tup h1 r1 => cases rb with | tup h2 r2 =>
  rename_i a xs b ys
  refine .inr (.inr (.inl ⟨a, b, xs, ys, rfl, rfl, same_sqt s h1, same_sqt s h2, by rw [r1.length, r2.length, sizeLine_eq]; omega, fun e => ?_, fun _ e => ?_, fun _ _ p hp => ?_⟩))
  · subst e; cases r1; exact q _ _ Hd H (.refl s) rfl (.tup h2 r2)
  · subst e; cases r2; rw [List.append_nil] at q; exact q _ _ Hd H (.refl s) rfl (.tup h1 r1)
  · have g := Grow.new (p := none) (o := HO.tup (xs ++ ys)) s hp
    exact q _ _ _ _ g rfl (.tup (SqT.of upd_same) ((r1.append r2).mono g.d))
theorem o2_addL {ds es : List D} (h : ds.length + es.length ≤ 1000000) : Op2 c (rAddU c.K) (.lst ds) (.lst es) (· = .lst (ds ++ es)) := fun x y Hd H s ra rb Q q => by
  cases ra with | lst h1 r1 => cases rb with | lst h2 r2 =>
  rename_i a xs b ys
  refine .inr (.inr (.inr ⟨a, b, xs, ys, rfl, rfl, s _ _ h1, s _ _ h2, by rw [r1.length, r2.length, sizeLine_eq]; omega, fun p hp => ?_⟩))
  have g := Grow.new (p := none) (o := HO.lst (xs ++ ys)) s hp
  exact q _ _ _ _ g rfl (.lst upd_same ((r1.append r2).mono g.d))
/-! == and != -/
theorem o2_eq {a b : D} (ha : a.ok = true) (hb : b.ok = true) : Op2 c (rEqD c.K) a b (· = .bl (a.eqv b)) := o2_c fun x y Hd H s ra rb =>
  ⟨_, fun Q q => ⟨a.py, b.py, (ra.mono s).dp (D.ok_plain ha), (rb.mono s).dp (D.ok_plain hb), D.ok_shaped ha, D.ok_shaped hb, q⟩, .bl _⟩
theorem o2_ne {a b : D} (ha : a.ok = true) (hb : b.ok = true) : Op2 c (rNeD c.K) a b (· = .bl (!a.eqv b)) := o2_c fun x y Hd H s ra rb =>
  ⟨_, fun Q q => ⟨a.py, b.py, (ra.mono s).dp (D.ok_plain ha), (rb.mono s).dp (D.ok_plain hb), D.ok_shaped ha, D.ok_shaped hb, q⟩, .bl _⟩
/-! is -/
theorem op_isBlA {X : Cx} : OpR X (compareOp .Is) (fun x y H Q => ∃ b, y = .bl b ∧ Q (.bl (decide (x = .bl b))) H) := by
  intro pins s σ H x y v u Q I rx ry h
  obtain ⟨b, rfl, q⟩ := h
  cases ry
  have hp : plainIs v (.bool b) = true := by cases v <;> first | rfl | (exfalso; cases x <;> simp [L2.RelV] at rx)
  refine PySem.wpAny_is_plain hp (fin_bl I q ?_)
  cases x <;> first
    | (cases rx; first | rfl | (rename_i k; cases k <;> cases b <;> rfl))
    | (obtain ⟨t, rfl⟩ := rx; rfl)
def rIsU : R2 := fun x y H Q => (y = .non ∧ Q (.bl (decide (x = .non))) H) ∨ (∃ b, y = .bl b ∧ Q (.bl (decide (x = .bl b))) H)
theorem op_isU {X : Cx} : OpR X (compareOp .Is) rIsU := OpR.or op_isN op_isBlA
def D.isNon : D → Bool
  | .non => true | _ => false
def D.isBl (b : Bool) : D → Bool
  | .bl k => k == b | _ => false
theorem o2_isN {a : D} : Op2 c rIsU a .non (· = .bl a.isNon) := o2_c fun x y Hd H s ra rb => by
  cases rb
  refine ⟨_, fun Q q => .inl ⟨rfl, q⟩, ?_⟩
  cases ra <;> exact .bl _
theorem o2_isB {a : D} {b : Bool} : Op2 c rIsU a (.bl b) (· = .bl (a.isBl b)) := o2_c fun x y Hd H s ra rb => by
  cases rb
  refine ⟨_, fun Q q => .inr ⟨b, rfl, q⟩, ?_⟩
  cases ra with
  | bl k =>
    have e : decide (V.bl k = V.bl b) = (D.bl k).isBl b := by cases k <;> cases b <;> rfl
    rw [e]; exact .bl _
  | _ => exact .bl _
theorem op_notU {X : Cx} : OpR X (compareOp .IsNot) (fun x y H Q => y = .non ∧ Q (.bl (!decide (x = .non))) H) := op_notN
theorem o2_notN {a : D} : Op2 c (fun x y H Q => y = .non ∧ Q (.bl (!decide (x = .non))) H) a .non (· = .bl (!a.isNon)) := o2_c fun x y Hd H s ra rb => by
  cases rb
  refine ⟨_, fun Q q => ⟨rfl, q⟩, ?_⟩
  cases ra <;> exact .bl _
/-! in -/
def rInU (K : PySem.W.Frag) : R2 := fun x y H Q => rIn K false x y H Q ∨ (∃ (k : Nat) (z : Str), x = .str ⟨#[k]⟩ ∧ y = .str z ∧ Q (.bl (decide (k ∈ z.cps.toList))) H)
def rNinU (K : PySem.W.Frag) : R2 := fun x y H Q => rIn K true x y H Q ∨ (∃ (k : Nat) (z : Str), x = .str ⟨#[k]⟩ ∧ y = .str z ∧ Q (.bl (!decide (k ∈ z.cps.toList))) H)
theorem op_inU {X : Cx} : OpR X (compareOp .In) (rInU X.K) := OpR.or op_in_seq op_in_sign
theorem op_ninU {X : Cx} : OpR X (compareOp .NotIn) (rNinU X.K) := OpR.or op_notIn_seq op_notIn_sign
def inD (x : D) (ds : List D) : Bool := inV x.v (ds.map D.v)
theorem o2_inT {x : D} {ds : List D} (hx : x.flat = true) (hd : ds.all D.flat = true) : Op2 c (rInU c.K) x (.tup ds) (· = .bl (inD x ds)) := o2_c fun a b Hd H s ra rb => by
  cases rb with | tup h r =>
  have e := r.flat hd; subst e
  have e := ra.flat hx; subst e
  exact ⟨_, fun Q q => .inl ⟨_, _, rfl, .inr (same_sqt s h), flat_v hx, flat_vs hd, q⟩, .bl _⟩
theorem o2_inL {x : D} {ds : List D} (hx : x.flat = true) (hd : ds.all D.flat = true) : Op2 c (rInU c.K) x (.lst ds) (· = .bl (inD x ds)) := o2_c fun a b Hd H s ra rb => by
  cases rb with | lst h r =>
  have e := r.flat hd; subst e
  have e := ra.flat hx; subst e
  exact ⟨_, fun Q q => .inl ⟨_, _, rfl, .inl (SqL.of (s _ _ h)), flat_v hx, flat_vs hd, q⟩, .bl _⟩
theorem o2_inS {k : Nat} {z : Str} : Op2 c (rInU c.K) (.str ⟨#[k]⟩) (.str z) (· = .bl (decide (k ∈ z.cps.toList))) := o2_c fun a b Hd H s ra rb => by
  cases ra; cases rb
  exact ⟨_, fun Q q => .inr ⟨k, z, rfl, rfl, q⟩, .bl _⟩
theorem o2_ninT {x : D} {ds : List D} (hx : x.flat = true) (hd : ds.all D.flat = true) : Op2 c (rNinU c.K) x (.tup ds) (· = .bl (!inD x ds)) := o2_c fun a b Hd H s ra rb => by
  cases rb with | tup h r =>
  have e := r.flat hd; subst e
  have e := ra.flat hx; subst e
  exact ⟨_, fun Q q => .inl ⟨_, _, rfl, .inr (same_sqt s h), flat_v hx, flat_vs hd, q⟩, .bl _⟩
theorem o2_ninL {x : D} {ds : List D} (hx : x.flat = true) (hd : ds.all D.flat = true) : Op2 c (rNinU c.K) x (.lst ds) (· = .bl (!inD x ds)) := o2_c fun a b Hd H s ra rb => by
  cases rb with | lst h r =>
  have e := r.flat hd; subst e
  have e := ra.flat hx; subst e
  exact ⟨_, fun Q q => .inl ⟨_, _, rfl, .inl (SqL.of (s _ _ h)), flat_v hx, flat_vs hd, q⟩, .bl _⟩
theorem o2_ninS {k : Nat} {z : Str} : Op2 c (rNinU c.K) (.str ⟨#[k]⟩) (.str z) (· = .bl (!decide (k ∈ z.cps.toList))) := o2_c fun a b Hd H s ra rb => by
  cases ra; cases rb
  exact ⟨_, fun Q q => .inr ⟨k, z, rfl, rfl, q⟩, .bl _⟩
/-! items -/
theorem Reps.atI {K : PySem.W.Frag} {H : Hp} {xs : List V} {ds : List D} {i : Int} {d : D} (r : Reps K H xs ds) (h : L2.atI ds i = some d) : ∃ v, L2.atI xs i = some v ∧ Rep K H v d := by
  unfold L2.atI at h ⊢
  rw [r.length]
  cases z : ixN ds.length i with
  | none => rw [z] at h; cases h
  | some k => rw [z] at h; exact r.get (show ds[k]? = some d from h)
theorem o2_ixL {ds : List D} {i : Int} {d : D} (h : atI ds i = some d) : Op2 c (rIx c.K) (.lst ds) (.int i) (· = d) := o2_c fun a b Hd H s ra rb => by
  cases rb
  cases ra with | lst h1 r =>
  obtain ⟨v, e, r'⟩ := r.atI h
  exact ⟨v, fun Q q => .inl ⟨_, _, i, v, rfl, rfl, SqL.of (s _ _ h1), e, q⟩, r'⟩
theorem o2_ixT {ds : List D} {i : Int} {d : D} (h : atI ds i = some d) : Op2 c (rIx c.K) (.tup ds) (.int i) (· = d) := o2_c fun a b Hd H s ra rb => by
  cases rb
  cases ra with | tup h1 r =>
  obtain ⟨v, e, r'⟩ := r.atI h
  exact ⟨v, fun Q q => .inr (.inl ⟨_, _, i, v, rfl, rfl, same_sqt s h1, e, q⟩), r'⟩
theorem o2_ixS {z : Str} {i : Int} {k : Nat} (h : atI z.cps.toList i = some k) (hz : z.length ≤ 1000000) : Op2 c (rIx c.K) (.str z) (.int i) (· = .str ⟨#[k]⟩) := o2_c fun a b Hd H s ra rb => by
  cases rb; cases ra
  exact ⟨_, fun Q q => .inr (.inr ⟨z, i, k, rfl, rfl, by rw [sizeLine_eq]; omega, h, q⟩), .str _⟩
/-! slices -/
def rSlU (K : PySem.W.Frag) : V → Option Int → Option Int → Hp → VK → Prop := fun x lo hi H Q => rSlA K x lo hi H Q ∨ rSlL K x lo hi H Q ∨ rSlS x lo hi H Q
theorem sl_U {X : Cx} : SlR X (rSlU X.K) := SlR.or sl_tupA (SlR.or sl_list sl_str)
def cutD (ds : List D) (lo hi : Option Int) : List D := (ds.drop (HT.sIx ds.length 0 lo)).take (HT.sIx ds.length ds.length hi - HT.sIx ds.length 0 lo)
theorem Reps.cut {K : PySem.W.Frag} {H : Hp} {xs : List V} {ds : List D} (lo hi : Option Int) (r : Reps K H xs ds) : Reps K H (cutV xs lo hi) (cutD ds lo hi) := by
  unfold cutV cutD
  rw [r.length]
  exact (r.drop _).take _
def D.cut (lo hi : Option Int) : D → D
  | .tup ds => .tup (cutD ds lo hi)
  | .lst ds => .lst (cutD ds lo hi)
  | .str z => .str (cutS z lo hi)
  | d => d
def D.seq : D → Bool
  | .tup _ => true | .lst _ => true | .str z => decide (z.length ≤ 1000000) | _ => false
theorem ev_sl {te : TE} {tl th : TO} {Γ : List Sk} {m m1 m2 : Nat} {φ ψ : D → Prop} {ω1 ω2 : Option Int → Prop} (h : Ev c te Γ m φ) (hl : EvO c tl Γ m1 ω1) (hh : EvO c th Γ m2 ω2) (hs : ∀ d, φ d → d.seq = true) (hr : ∀ d lo hi, φ d → ω1 lo → ω2 hi → ψ (d.cut lo hi)) :
    Ev c (tSl (rSlU c.K) te tl th) Γ (m + m1 + m2) ψ := fun σ Hd H n s sa pe l x Q q =>
  h σ Hd H n s sa pe (by omega) x _ fun v d Hd1 H1 g1 pe1 f1 r1 => hl σ Hd1 H1 _ (s.grow g1) g1.s pe1 (by omega) (x.grow g1) _ fun lo Hd2 H2 g2 pe2 f2 => hh σ Hd2 H2 _ (s.grow (g1.trans g2)) g2.s pe2 (by omega) (x.grow (g1.trans g2)) _ fun hi Hd3 H3 g3 pe3 f3 => by
    have gg := (g1.trans g2).trans g3
    have e3 : n + m + m1 + m2 = n + (m + m1 + m2) := by omega
    rw [e3] at pe3
    have r3 := r1.mono (g2.trans g3).d
    have fin := hr d lo hi f1 f2 f3
    have hsd := hs d f1
    cases r3 with
    | tup h1 r =>
      rename_i a xs ds
      refine .inl ⟨a, xs, rfl, same_sqt g3.s h1, fun e => ?_, fun ne p hp => ?_⟩
      · have e' : cutD ds lo hi = ds := by
          unfold cutD
          rw [r.length] at e
          rw [e.1, e.2, List.drop_zero, Nat.sub_zero, List.take_length]
        exact q _ _ _ _ gg pe3 (by show ψ (D.tup ds); rw [← e']; exact fin) (.tup h1 r)
      · have g := Grow.new (p := none) (o := HO.tup (cutV xs lo hi)) g3.s hp
        exact q _ _ _ _ (gg.trans g.up) (pe3.grow g) fin (.tup (SqT.of upd_same) ((r.cut lo hi).mono g.d))
    | lst h1 r =>
      rename_i a xs ds
      refine .inr (.inl ⟨a, xs, rfl, SqL.of (g3.s _ _ h1), fun p hp => ?_⟩)
      have g := Grow.new (p := none) (o := HO.lst (cutV xs lo hi)) g3.s hp
      exact q _ _ _ _ (gg.trans g.up) (pe3.grow g) fin (.lst upd_same ((r.cut lo hi).mono g.d))
    | str z =>
      have hz : z.length ≤ 1000000 := of_decide_eq_true hsd
      exact .inr (.inr ⟨z, rfl, by rw [sizeLine_eq]; omega, q _ _ _ _ gg pe3 fin (.str _)⟩)
    | _ => cases hsd
theorem ev_sl_ {te : TE} {tl th : TO} {Γ : List Sk} {m m1 m2 : Nat} {d : D} {lo hi : Option Int} (h : Ev c te Γ m (· = d)) (hl : EvO c tl Γ m1 (· = lo)) (hh : EvO c th Γ m2 (· = hi)) (hs : d.seq = true) : Ev c (tSl (rSlU c.K) te tl th) Γ (m + m1 + m2) (· = d.cut lo hi) :=
  ev_sl h hl hh (fun _ e => by rw [e]; exact hs) fun _ _ _ e1 e2 e3 => by rw [e1, e2, e3]
/-! calls of built-ins -/
theorem ev_cb {r : List V → Hp → VK → Prop} {ta : TA} {Γ : List Sk} {m : Nat} {ψ : List D → Prop} (h : EvA c ta Γ m ψ) (hr : ∀ ds, ψ ds → OpN c r ds φ) : Ev c (tCB r ta) Γ m φ := fun σ Hd H n s sa pe l x Q q =>
  h σ Hd H n s sa pe l x _ fun vs ds Hd1 H1 g1 pe1 f r1 => hr ds f vs Hd1 H1 g1.s r1 Q fun v d Hd2 H2 g2 f2 r2 => q v d Hd2 H2 (g1.trans g2.up) (pe1.grow g2) f2 r2
theorem ev_cb_ {r : List V → Hp → VK → Prop} {ta : TA} {Γ : List Sk} {m : Nat} {ds : List D} (h : EvA c ta Γ m (· = ds)) (hr : OpN c r ds φ) : Ev c (tCB r ta) Γ m φ := ev_cb h fun _ e => by rw [e]; exact hr
theorem on_c {r : List V → Hp → VK → Prop} {as : List D} {d : D} (h : ∀ xs Hd H, Same Hd H → Reps c.K Hd xs as → ∃ v, (∀ Q : VK, Q v H → r xs H Q) ∧ Rep c.K Hd v d) : OpN c r as (· = d) := fun xs Hd H s ra Q q => by
  obtain ⟨v, h1, h2⟩ := h xs Hd H s ra
  exact h1 Q (q v d Hd H (.refl s) rfl h2)
/-- what hands back a new list of data that is there -/
theorem on_new {r : List V → Hp → VK → Prop} {as es : List D} (h : ∀ xs Hd H, Same Hd H → Reps c.K Hd xs as → ∃ vs, (∀ Q : VK, (∀ p, H p = none → Q (.ref p) (upd H p (.lst vs))) → r xs H Q) ∧ Reps c.K Hd vs es) : OpN c r as (· = .lst es) := fun xs Hd H s ra Q q => by
  obtain ⟨vs, h1, h2⟩ := h xs Hd H s ra
  refine h1 Q fun p hp => ?_
  have g := Grow.new (p := none) (o := HO.lst vs) s hp
  exact q _ _ _ _ g rfl (.lst upd_same (h2.mono g.d))
def D.len : D → Option Nat
  | .tup ds => some ds.length | .lst ds => some ds.length | .str z => if z.length ≤ 1000000 then some z.length else none | _ => none
theorem on_len {d : D} {k : Nat} (h : d.len = some k) : OpN c (fun xs H Q => ∃ x n, xs = [x] ∧ LenV c.K x H n ∧ Q (.int n) H) [d] (· = .int k) := on_c fun xs Hd H s ra => by
  cases ra with | cons a r => cases r; cases a with
  | tup h1 r => cases h; exact ⟨_, fun Q q => ⟨_, _, rfl, .inr ⟨_, same_sqt s h1, rfl⟩, q⟩, by rw [r.length]; exact .int _⟩
  | lst h1 r => cases h; exact ⟨_, fun Q q => ⟨_, _, rfl, .inl ⟨_, SqL.of (s _ _ h1), rfl⟩, q⟩, by rw [r.length]; exact .int _⟩
  | str z =>
    by_cases hz : z.length ≤ 1000000
    · rw [show (D.str z).len = some z.length from if_pos hz] at h
      cases h; exact ⟨_, fun Q q => ⟨_, _, rfl, ⟨by rw [sizeLine_eq]; omega, rfl⟩, q⟩, .int _⟩
    · rw [show (D.str z).len = none from if_neg hz] at h; cases h
  | _ => cases h
def isiD (d : D) (T : String) : Option Bool := kitB d.ty T
theorem on_isi {d : D} {T : String} {b : Bool} (hb : d.builtin = true) (h : kitB d.ty T = some b) : ∀ xs Hd H, Same Hd H → (∃ v, Rep c.K Hd v d ∧ xs = [v, .ty T]) → ∀ Q : VK, Q (.bl b) H → rIsi c.K xs H Q := fun xs Hd H s ⟨v, r, e⟩ Q q =>
  ⟨v, .ty T, _, _, b, e, .ty T, rep_ty s hb r, kit_ty h, q⟩
/-- isinstance(e, T) -/
theorem ev_isi {te : TE} {Γ : List Sk} {m : Nat} {T : String} {d : D} {b : Bool} (h : Ev c te Γ m (· = d)) (hb : d.builtin = true) (hk : kitB d.ty T = some b) : Ev c (tCB (rIsi c.K) (tCons te (tCons (tC (.ty T)) tNil))) Γ m (· = .bl b) := fun σ Hd H n s sa pe l x Q q =>
  h σ Hd H n s sa pe l x _ fun v d' Hd1 H1 g1 pe1 e r1 => by
    subst e
    exact on_isi (c := c) hb hk _ Hd1 H1 g1.s ⟨v, r1, rfl⟩ Q (q _ _ Hd1 H1 g1 pe1 rfl (.bl b))
def kitL (t : String) : List String → Option Bool
  | [] => some false
  | T :: Ts => (kitB t T).bind fun b => if b = true then some true else kitL t Ts
theorem kitL_any {K : PySem.W.Frag} {t : String} : ∀ {Ts : List String} {b : Bool}, kitL t Ts = some b → PySem.W.kitAny K (.type t) (Ts.map Value.type) = some b
  | [], b, h => by cases h; exact kitAny_nil
  | T :: Ts, b, h => by
    unfold kitL at h
    cases z : kitB t T with
    | none => rw [z] at h; cases h
    | some k =>
      rw [z] at h
      cases k with
      | true =>
        cases h
        exact kitAny_cons (b := true) (kit_ty z) (fun e => by cases e) fun _ => rfl
      | false => exact kitAny_cons (b := false) (kit_ty z) (fun _ => kitL_any (show kitL t Ts = some b from h)) fun e => by cases e
theorem cls_all : ∀ (Ts : List String), Paired ClsV (Ts.map V.ty) (Ts.map Value.type)
  | [] => .nil
  | T :: Ts => .cons (.ty T) (cls_all Ts)
def tTys : List String → TA
  | [] => tNil
  | T :: Ts => tCons (tC (.ty T)) (tTys Ts)
theorem tTys_run : ∀ (Ts : List String) (σ : L2.St) (H : Hp) (Q : List V → Hp → Prop), Q (Ts.map V.ty) H → tTys Ts σ H Q
  | [], _, _, _, q => q
  | T :: Ts, σ, H, Q, q => tTys_run Ts σ H _ q
/-- isinstance(e, (T, ..)) -/
theorem ev_isiT {te : TE} {Γ : List Sk} {m : Nat} (Ts : List String) {d : D} {b : Bool} (h : Ev c te Γ m (· = d)) (hb : d.builtin = true) (hk : kitL d.ty Ts = some b) (hl : Ts.length ≤ 1000 := by decide) : Ev c (tCB (rIsiT c.K) (tCons te (tCons (tTup (tTys Ts)) tNil))) Γ m (· = .bl b) := fun σ Hd H n s sa pe l x Q q =>
  h σ Hd H n s sa pe l x _ fun v d' Hd1 H1 g1 pe1 e r1 => by
    subst e
    refine tTys_run Ts σ H1 _ ⟨Nat.le_of_lt (small1000 (by rw [List.length_map]; exact hl)), fun p hp => ?_⟩
    have g := Grow.new (p := none) (o := HO.tup (Ts.map V.ty)) g1.s hp
    exact ⟨v, p, _, _, _, b, rfl, upd_same, cls_all Ts, rep_ty (g.d.trans g.s) hb (r1), kitL_any hk, q _ _ _ _ (g1.trans g.up) (pe1.grow g) rfl (.bl b)⟩
/-- list(..), tuple(..) of a list or a tuple -/
def D.its : D → Option (List D)
  | .tup ds => some ds | .lst ds => some ds | _ => none
theorem on_list {d : D} {ds : List D} (h : d.its = some ds) : OpN c (fun xs H Q => ∃ p ys, xs = [.ref p] ∧ (SqL c.K H p ys ∨ SqT c.K H p ys) ∧ ∀ l, H l = none → Q (.ref l) (upd H l (.lst ys))) [d] (· = .lst ds) := on_new fun xs Hd H s ra => by
  cases ra with | cons a r => cases r; cases a with
  | tup h1 r => cases h; exact ⟨_, fun Q q => ⟨_, _, rfl, .inr (same_sqt s h1), q⟩, r⟩
  | lst h1 r => cases h; exact ⟨_, fun Q q => ⟨_, _, rfl, .inl (SqL.of (s _ _ h1)), q⟩, r⟩
  | _ => cases h
theorem on_tuple {d : D} {ds : List D} (h : d.its = some ds) : OpN c (fun xs H Q => ∃ a ys, xs = [.ref a] ∧ ((SqL c.K H a ys ∧ ∀ l, H l = none → Q (.ref l) (upd H l (.tup ys))) ∨ (SqT c.K H a ys ∧ Q (.ref a) H))) [d] (· = .tup ds) := fun xs Hd H s ra Q q => by
  cases ra with | cons a r => cases r; cases a with
  | tup h1 r => cases h; exact ⟨_, _, rfl, .inr ⟨same_sqt s h1, q _ _ _ _ (.refl s) rfl (.tup h1 r)⟩⟩
  | lst h1 r =>
    cases h
    rename_i a ys
    refine ⟨_, _, rfl, .inl ⟨SqL.of (s _ _ h1), fun p hp => ?_⟩⟩
    have g := Grow.new (p := none) (o := HO.tup ys) s hp
    exact q _ _ _ _ g rfl (.tup (SqT.of upd_same) (r.mono g.d))
  | _ => cases h
theorem on_all {bs : List Bool} : OpN c (rAll c.K) [.lst (bs.map D.bl)] (· = .bl (bs.all id)) := on_c fun xs Hd H s ra => by
  cases ra with | cons a r => cases r; cases a with | lst h1 r =>
    have e := r.of_bls; subst e
    exact ⟨_, fun Q q => ⟨_, bs, rfl, SqL.of (s _ _ h1), q⟩, .bl _⟩
theorem on_any {bs : List Bool} : OpN c (rAny c.K) [.lst (bs.map D.bl)] (· = .bl (bs.any id)) := on_c fun xs Hd H s ra => by
  cases ra with | cons a r => cases r; cases a with | lst h1 r =>
    have e := r.of_bls; subst e
    exact ⟨_, fun Q q => ⟨_, bs, rfl, SqL.of (s _ _ h1), q⟩, .bl _⟩
theorem on_sum {ns : List Int} : OpN c (rSum c.K) [.lst (ns.map D.int)] (· = .int ns.sum) := on_c fun xs Hd H s ra => by
  cases ra with | cons a r => cases r; cases a with | lst h1 r =>
    have e := r.of_ints; subst e
    exact ⟨_, fun Q q => ⟨_, ns, rfl, SqL.of (s _ _ h1), q⟩, .int _⟩
theorem on_min2 {i j : Int} : OpN c (fun xs H Q => ∃ i j, xs = [.int i, .int j] ∧ Q (.int (if j < i then j else i)) H) [.int i, .int j] (· = .int (if j < i then j else i)) := on_c fun xs Hd H s ra => by
  cases ra with | cons a r => cases r with | cons b r => cases r; cases a; cases b; exact ⟨_, fun Q q => ⟨i, j, rfl, q⟩, .int _⟩
theorem on_max2 {i j : Int} : OpN c (fun xs H Q => ∃ i j, xs = [.int i, .int j] ∧ Q (.int (if j > i then j else i)) H) [.int i, .int j] (· = .int (if j > i then j else i)) := on_c fun xs Hd H s ra => by
  cases ra with | cons a r => cases r with | cons b r => cases r; cases a; cases b; exact ⟨_, fun Q q => ⟨i, j, rfl, q⟩, .int _⟩
theorem on_int {i : Int} : OpN c (fun xs H Q => (∃ i, xs = [.int i] ∧ Q (.int i) H) ∨ ∃ k, xs = [.bl k] ∧ Q (.int (if k then 1 else 0)) H) [.int i] (· = .int i) := on_c fun xs Hd H s ra => by
  cases ra with | cons a r => cases r; cases a; exact ⟨_, fun Q q => .inl ⟨i, rfl, q⟩, .int _⟩
theorem on_strI {i : Int} (h : i.natAbs.log2 < 1920) : OpN c (fun xs H Q => ∃ i, xs = [.int i] ∧ i.natAbs.log2 < 1920 ∧ Q (.str (toString i)) H) [.int i] (· = .str (toString i)) := on_c fun xs Hd H s ra => by
  cases ra with | cons a r => cases r; cases a; exact ⟨_, fun Q q => ⟨i, rfl, h, q⟩, .str _⟩
theorem on_sortedS {ss : List Str} (h : ss.length < 64) : OpN c (rSortedS c.K) [.lst (ss.map D.str)] (fun d => ∃ ys : List Str, ys.Perm ss ∧ sortedS ys = true ∧ d = .lst (ys.map D.str)) := fun xs Hd H s ra Q q => by
  cases ra with | cons a r => cases r; cases a with | lst h1 r =>
    have e := r.of_strs; subst e
    refine ⟨_, ss, rfl, SqL.of (s _ _ h1), h, fun ys p pr so hp => ?_⟩
    have g := Grow.new (p := none) (o := HO.lst (ys.map V.str)) s hp
    exact q _ _ _ _ g ⟨ys, pr, so, rfl⟩ (.lst upd_same (reps_strs ys))
end
end DL
set_option maxRecDepth 100000
set_option maxHeartbeats 4000000
/-! DL8: repr, *, split, dicts read, sizes of data. -/
namespace DL
open PySem L2 PyProof.Rows
variable [Tbl]

/-! ### repr -/
theorem call_reprD {X : Cx} (ng : NoG X.A) (hu : X.A.units + 66 < cLine) : CallR X (.builtin "repr") (fun xs H Q => ∃ v d, xs = [v] ∧ Dp X.K H v d ∧ d.canLay0 = true ∧ d.showable = true ∧ d.depth ≤ 64 ∧ d.shown.length ≤ sizeLine ∧ Q (.str d.shown) H) := by
  intro pins s σ H xs us Q I r h
  obtain ⟨v, d, rfl, hd, lay, sho, dep, len, q⟩ := h
  obtain ⟨u, rfl, ru⟩ := vals1 r
  obtain ⟨as, rd⟩ := Dp.reads I d v u hd ru
  have done : ∀ {t : Nat} {tk : Tok}, EP X pins σ Q (.str d.shown tk) { s with toks := t } := fun {t tk} => ⟨.str d.shown, H, I.tok t, ⟨tk, rfl⟩, q⟩
  cases rd with
  | none => exact PySem.P.repr_of_none done
  | bool b => exact PySem.P.repr_of_bool done
  | int i t => exact PySem.P.repr_of_int (of_decide_eq_true sho) done
  | str x t => exact PySem.P.repr_of_str done len
  | list h1 h2 h3 h4 =>
    refine repr_of_reads' (.list h1 h2 h3 h4) sho (fun z => ?_) ng (by omega) (fun _ _ z => z) (fun h' u' tk kp => ⟨.str _, H, I.kept (t' := tk) kp, ⟨u', rfl⟩, q⟩) len
    rw [PyData.hasDict_of_canLay _ lay] at z; cases z
  | tuple h1 h2 h3 h4 =>
    refine repr_of_reads' (.tuple h1 h2 h3 h4) sho (fun z => ?_) ng (by omega) (fun _ _ z => z) (fun h' u' tk kp => ⟨.str _, H, I.kept (t' := tk) kp, ⟨u', rfl⟩, q⟩) len
    rw [PyData.hasDict_of_canLay _ lay] at z; cases z
  | dict _ _ _ _ _ => cases lay

/-! ### sizes -/
mutual
/-- room for the text -/
def D.w : D → Nat
  | .non => 5 | .bl _ => 5 | .int _ => 1930 | .str s => 10 * s.length + 2
  | .lst ds => D.ws ds + 3 | .tup ds => D.ws ds + 3
  | .dct _ _ => 5 | .dcf _ _ => 5 | .dtf _ _ => 5 | .obj _ _ _ => 5 | .exc _ _ _ _ => 5 | .ptr _ => 5 | .err _ _ _ => 5
def D.ws : List D → Nat
  | [] => 0
  | d :: ds => D.w d + 2 + D.ws ds
end
mutual
theorem shown_w : ∀ d : D, d.py.canLay0 = true → d.py.showable = true → d.py.shown.length ≤ d.w
  | .non, _, _ => by decide
  | .bl b, _, _ => by cases b <;> decide
  | .int i, _, h => by
    have := int_text_length_le (k := 1920) (by decide) (of_decide_eq_true (show decide (i.natAbs.log2 < 1920) = true from h))
    show (Str.ofString (toString i)).length ≤ 1930
    rw [PySem.ofString_length]; omega
  | .str s, h, _ => by
    have h0 : s.cps.all (· < 0x110000) = true := h
    have := StrLaws.reprText_len s fun c hc => by
      have := (Array.all_eq_true_iff_forall_mem.mp h0) c (Array.mem_toList_iff.mp hc)
      have := of_decide_eq_true this
      have e : (16 : Nat) ^ 8 = 4294967296 := by decide
      omega
    show (reprText s).length ≤ 10 * s.length + 2
    omega
  | .lst ds, h, h2 => by
    have := shown_ws ds h h2
    have := listText_len_le (PyData.shownAll (D.pys ds))
    show (listText (PyData.shownAll (D.pys ds))).length ≤ D.ws ds + 3
    omega
  | .tup ds, h, h2 => by
    have := shown_ws ds h h2
    have := tupleText_len_le (PyData.shownAll (D.pys ds))
    show (tupleText (PyData.shownAll (D.pys ds))).length ≤ D.ws ds + 3
    omega
  | .dcf _ _, _, _ => (show (PyData.shown PyData.none).length ≤ 5 by decide)
  | .dtf _ _, _, _ => (show (PyData.shown PyData.none).length ≤ 5 by decide)
  | .dct _ _, _, _ => (show (PyData.shown PyData.none).length ≤ 5 by decide)
  | .obj _ _ _, _, _ => (show (PyData.shown PyData.none).length ≤ 5 by decide)
  | .exc _ _ _ _, _, _ => (show (PyData.shown PyData.none).length ≤ 5 by decide)
  | .ptr _, _, _ => (show (PyData.shown PyData.none).length ≤ 5 by decide)
  | .err _ _ _, _, _ => (show (PyData.shown PyData.none).length ≤ 5 by decide)
theorem shown_ws : ∀ ds : List D, PyData.canLayAll0 (D.pys ds) = true → PyData.showableAll (D.pys ds) = true → ((PyData.shownAll (D.pys ds)).map (·.length)).sum + 2 * (PyData.shownAll (D.pys ds)).length ≤ D.ws ds
  | [], _, _ => by decide
  | d :: ds, h, h2 => by
    have h' := Bool.and_eq_true_iff.mp (show (d.py.canLay0 && PyData.canLayAll0 (D.pys ds)) = true from h)
    have h2' := Bool.and_eq_true_iff.mp (show (d.py.showable && PyData.showableAll (D.pys ds)) = true from h2)
    have a := shown_w d h'.1 h2'.1
    have b := shown_ws ds h'.2 h2'.2
    show ((d.py.shown :: PyData.shownAll (D.pys ds)).map (·.length)).sum + 2 * (d.py.shown :: PyData.shownAll (D.pys ds)).length ≤ D.w d + 2 + D.ws ds
    rw [List.map_cons, List.sum_cons, List.length_cons]
    omega
end

/-- good data: plain, small (n), not deep (k) -/
structure GD (k n : Nat) (d : D) : Prop where
  pl : d.plain = true
  lay : d.py.canLay0 = true
  sh : d.py.showable = true
  dep : d.py.depth ≤ k
  w : d.w ≤ n
structure GDs (k n : Nat) (ds : List D) : Prop where
  pl : D.plains ds = true
  lay : PyData.canLayAll0 (D.pys ds) = true
  sh : PyData.showableAll (D.pys ds) = true
  dep : PyData.depthAll (D.pys ds) ≤ k
  w : D.ws ds ≤ n
section
variable {k n k' n' : Nat} {d : D} {ds : List D}
theorem GD.mono (h : GD k n d) (a : k ≤ k') (b : n ≤ n') : GD k' n' d := ⟨h.pl, h.lay, h.sh, Nat.le_trans h.dep a, Nat.le_trans h.w b⟩
theorem GDs.mono (h : GDs k n ds) (a : k ≤ k') (b : n ≤ n') : GDs k' n' ds := ⟨h.pl, h.lay, h.sh, Nat.le_trans h.dep a, Nat.le_trans h.w b⟩
theorem GDs.nil : GDs k n [] := ⟨rfl, rfl, rfl, Nat.zero_le _, Nat.zero_le _⟩
theorem GDs.cons (h : GD k n d) (r : GDs k n' ds) : GDs k (n + 2 + n') (d :: ds) :=
  ⟨by show (d.plain && D.plains ds) = true; rw [h.pl, r.pl]; rfl, by show (d.py.canLay0 && PyData.canLayAll0 (D.pys ds)) = true; rw [h.lay, r.lay]; rfl, by show (d.py.showable && PyData.showableAll (D.pys ds)) = true; rw [h.sh, r.sh]; rfl,
    by show max d.py.depth (PyData.depthAll (D.pys ds)) ≤ k; exact Nat.max_le.mpr ⟨h.dep, r.dep⟩, by have := h.w; have := r.w; show D.w d + 2 + D.ws ds ≤ n + 2 + n'; omega⟩
theorem GDs.all : ∀ {ds : List D}, (∀ d ∈ ds, GD k n d) → GDs k (ds.length * (n + 2)) ds
  | [], _ => GDs.nil
  | d :: ds, h => by
    have := GDs.cons (h d List.mem_cons_self) (GDs.all fun e he => h e (List.mem_cons_of_mem _ he))
    exact this.mono (Nat.le_refl _) (by rw [List.length_cons, Nat.succ_mul]; omega)
theorem GDs.tup (h : GDs k n ds) : GD (k + 1) (n + 3) (.tup ds) := ⟨h.pl, h.lay, h.sh, Nat.succ_le_succ h.dep, by have := h.w; show D.ws ds + 3 ≤ n + 3; omega⟩
theorem GDs.lst (h : GDs k n ds) : GD (k + 1) (n + 3) (.lst ds) := ⟨h.pl, h.lay, h.sh, Nat.succ_le_succ h.dep, by have := h.w; show D.ws ds + 3 ≤ n + 3; omega⟩
theorem GD.tups (h : GD k n (.tup ds)) : GDs (k - 1) n ds := ⟨h.pl, h.lay, h.sh, by have := h.dep; have e : (D.tup ds).py.depth = PyData.depthAll (D.pys ds) + 1 := rfl; omega, by have := h.w; have e : (D.tup ds).w = D.ws ds + 3 := rfl; omega⟩
theorem GD.lsts (h : GD k n (.lst ds)) : GDs (k - 1) n ds := ⟨h.pl, h.lay, h.sh, by have := h.dep; have e : (D.lst ds).py.depth = PyData.depthAll (D.pys ds) + 1 := rfl; omega, by have := h.w; have e : (D.lst ds).w = D.ws ds + 3 := rfl; omega⟩
theorem GDs.head (h : GDs k n (d :: ds)) : GD k n d := by
  have h1 := Bool.and_eq_true_iff.mp (show (d.plain && D.plains ds) = true from h.pl)
  have h2 := Bool.and_eq_true_iff.mp (show (d.py.canLay0 && PyData.canLayAll0 (D.pys ds)) = true from h.lay)
  have h3 := Bool.and_eq_true_iff.mp (show (d.py.showable && PyData.showableAll (D.pys ds)) = true from h.sh)
  have h4 := Nat.max_le.mp (show max d.py.depth (PyData.depthAll (D.pys ds)) ≤ k from h.dep)
  have h5 : D.w d + 2 + D.ws ds ≤ n := h.w
  exact ⟨h1.1, h2.1, h3.1, h4.1, by omega⟩
theorem GDs.tail (h : GDs k n (d :: ds)) : GDs k n ds := by
  have h1 := Bool.and_eq_true_iff.mp (show (d.plain && D.plains ds) = true from h.pl)
  have h2 := Bool.and_eq_true_iff.mp (show (d.py.canLay0 && PyData.canLayAll0 (D.pys ds)) = true from h.lay)
  have h3 := Bool.and_eq_true_iff.mp (show (d.py.showable && PyData.showableAll (D.pys ds)) = true from h.sh)
  have h4 := Nat.max_le.mp (show max d.py.depth (PyData.depthAll (D.pys ds)) ≤ k from h.dep)
  have h5 : D.w d + 2 + D.ws ds ≤ n := h.w
  exact ⟨h1.2, h2.2, h3.2, h4.2, by omega⟩
theorem GDs.mem : ∀ {ds : List D}, GDs k n ds → ∀ d ∈ ds, GD k n d
  | [], _, d, h => by simp at h
  | e :: ds, g, d, h => by
    rcases List.mem_cons.mp h with rfl | h
    · exact g.head
    · exact g.tail.mem d h
theorem GDs.app : ∀ {ds es : List D} {n n' : Nat}, GDs k n ds → GDs k n' es → GDs k (n + n') (ds ++ es)
  | [], _, _, _, _, h => h.mono (Nat.le_refl _) (by omega)
  | d :: ds, es, n, n', g, h => by
    have w1 : D.w d + 2 + D.ws ds ≤ n := g.w
    have q := GDs.cons (n := D.w d) (d := d) ⟨g.head.pl, g.head.lay, g.head.sh, g.head.dep, Nat.le_refl _⟩ ((GDs.app (n := D.ws ds) ⟨g.tail.pl, g.tail.lay, g.tail.sh, g.tail.dep, Nat.le_refl _⟩ h))
    exact q.mono (Nat.le_refl _) (by omega)
theorem GDs.take (i : Nat) : ∀ {ds : List D} {n : Nat}, GDs k n ds → GDs k n (ds.take i) := by
  induction i with
  | zero => intro ds n _; rw [List.take_zero]; exact GDs.nil
  | succ i ih =>
    intro ds n h
    cases ds with
    | nil => exact GDs.nil
    | cons d ds =>
      rw [List.take_succ_cons]
      have w1 : D.w d + 2 + D.ws ds ≤ n := h.w
      have q := GDs.cons (n := D.w d) (d := d) ⟨h.head.pl, h.head.lay, h.head.sh, h.head.dep, Nat.le_refl _⟩ (ih (n := D.ws ds) ⟨h.tail.pl, h.tail.lay, h.tail.sh, h.tail.dep, Nat.le_refl _⟩)
      exact q.mono (Nat.le_refl _) (by omega)
theorem GDs.drop (i : Nat) : ∀ {ds : List D}, GDs k n ds → GDs k n (ds.drop i) := by
  induction i with
  | zero => intro ds h; exact h
  | succ i ih =>
    intro ds h
    cases ds with
    | nil => exact GDs.nil
    | cons d ds => exact ih h.tail
theorem GDs.cut (lo hi : Option Int) (h : GDs k n ds) : GDs k n (cutD ds lo hi) := (h.drop _).take _
theorem GD.ok (h : GD k n d) (hk : k ≤ 64 := by decide) : d.ok = true := by
  unfold D.ok SeqAt.shaped
  rw [h.pl, h.lay, decide_eq_true (Nat.le_trans h.dep hk)]; rfl
theorem GD.int {i : Int} (hk : i.natAbs.log2 < 1920 := by decide) (b : 1930 ≤ n := by decide) : GD k n (.int i) := ⟨rfl, rfl, decide_eq_true hk, Nat.zero_le _, b⟩
theorem GD.bl {b : Bool} (h : 5 ≤ n := by decide) : GD k n (.bl b) := ⟨rfl, rfl, rfl, Nat.zero_le _, h⟩
theorem GD.non (h : 5 ≤ n := by decide) : GD k n .non := ⟨rfl, rfl, rfl, Nat.zero_le _, h⟩
theorem GD.str {s : Str} (h : PyData.strOk s = true) (b : 10 * s.length + 2 ≤ n) : GD k n (.str s) := ⟨rfl, h, rfl, Nat.zero_le _, b⟩
theorem GD.strOk {s : Str} (h : GD k n (.str s)) : PyData.strOk s = true := h.lay
theorem GD.strLen {s : Str} (h : GD k n (.str s)) : 10 * s.length + 2 ≤ n := h.w
end
section
variable {c : Ct} {φ : D → Prop}
def rReprD (K : PySem.W.Frag) : List V → Hp → VK → Prop := fun xs H Q => ∃ v d, xs = [v] ∧ Dp K H v d ∧ d.canLay0 = true ∧ d.showable = true ∧ d.depth ≤ 64 ∧ d.shown.length ≤ sizeLine ∧ Q (.str d.shown) H
theorem on_repr {d : D} {k n : Nat} (g : GD k n d) (hk : k ≤ 64 := by decide) (hn : n ≤ 16000000 := by decide) : OpN c (rReprD c.K) [d] (· = .str d.py.shown) := on_c fun xs Hd H s ra => by
  cases ra with | cons a r => cases r; exact ⟨_, fun Q q => ⟨_, d.py, rfl, (a.mono s).dp g.pl, g.lay, g.sh, Nat.le_trans g.dep hk, by have := shown_w d g.lay g.sh; have := g.w; rw [sizeLine_eq]; omega, q⟩, .str _⟩
/-! * -/
theorem op_mulS {X : Cx} : OpR X (binaryOp .Mult) (fun x y H Q => ∃ z n, x = .str z ∧ y = .int n ∧ 0 ≤ n ∧ n ≤ 1000 ∧ z.length ≤ 1000 ∧ Q (.str (Txt.mul z n)) H) := by
  intro pins s σ H x y v u Q I rx ry h
  obtain ⟨z, n, rfl, rfl, h0, h1, h2, q⟩ := h
  obtain ⟨t, rfl⟩ := rx
  obtain ⟨t2, rfl⟩ := ry
  refine SB.mul ⟨?_, fun _ _ => ?_, fun _ _ => ?_⟩ fun t' k => ⟨.str _, H, I.tok k, ⟨t', rfl⟩, q⟩
  · rw [decide_eq_false (by omega), decide_eq_false (by omega)]; rfl
  · have hn : 1 ≤ n ∨ n < 1 := by omega
    rcases hn with hn | hn
    · have : (2 ^ 63 - 1) / n ≥ (2 ^ 63 - 1) / 1000 := by
        rw [ge_iff_le, Int.le_ediv_iff_mul_le (by omega)]
        have : ((2:Int) ^ 63 - 1) / 1000 * n ≤ (2 ^ 63 - 1) / 1000 * 1000 := Int.mul_le_mul_of_nonneg_left h1 (by decide)
        have e : ((2:Int) ^ 63 - 1) / 1000 * 1000 ≤ 2 ^ 63 - 1 := by decide
        omega
      have e : ((2:Int) ^ 63 - 1) / 1000 = 9223372036854775 := by decide
      omega
    · omega
  · unfold Builtin.Str.tooLong
    have : z.length * n.toNat ≤ 1000 * 1000 := Nat.mul_le_mul h2 (by omega)
    rw [decide_eq_false]
    rw [sizeLine_eq]; omega
def rMulU (K : PySem.W.Frag) : R2 := fun x y H Q => rI CMul (fun i j => .int (i * j)) x y H Q ∨ (∃ z n, x = .str z ∧ y = .int n ∧ 0 ≤ n ∧ n ≤ 1000 ∧ z.length ≤ 1000 ∧ Q (.str (Txt.mul z n)) H) ∨ rRep x y H Q
theorem op_mulU {X : Cx} : OpR X (binaryOp .Mult) (rMulU X.K) := OpR.or op_mul (OpR.or op_mulS op_rep)
theorem o2_mulI {i j : Int} (h : CMul i j) : Op2 c (rMulU c.K) (.int i) (.int j) (· = .int (i * j)) := fun x y Hd H s ra rb Q q => .inl (o2_IC h x y Hd H s ra rb Q q)
theorem o2_mulS {z : Str} {n : Int} (h : 0 ≤ n ∧ n ≤ 1000 ∧ z.length ≤ 1000) : Op2 c (rMulU c.K) (.str z) (.int n) (· = .str (Txt.mul z n)) := o2_c fun x y Hd H s ra rb => by
  cases ra; cases rb
  exact ⟨_, fun Q q => .inr (.inl ⟨z, n, rfl, rfl, h.1, h.2.1, h.2.2, q⟩), .str _⟩
theorem o2_mulL {ds : List D} {n : Int} (h : 0 ≤ n ∧ n ≤ 1000 ∧ ds.length ≤ 1000) : Op2 c (rMulU c.K) (.lst ds) (.int n) (· = .lst (List.replicate n.toNat ds).flatten) := fun x y Hd H s ra rb Q q => by
  cases rb
  cases ra with | lst h1 r =>
  rename_i a xs
  have e : xs.length * n.toNat ≤ 1000 * 1000 := Nat.mul_le_mul (by rw [r.length]; exact h.2.2) (by omega)
  refine .inr (.inr ⟨a, n, xs, rfl, rfl, s _ _ h1, by omega, by omega, by rw [sizeLine_eq]; omega, fun p hp => ?_⟩)
  have g := Grow.new (p := none) (o := HO.lst (List.replicate n.toNat xs).flatten) s hp
  exact q _ _ _ _ g rfl (.lst upd_same ((r.rep n.toNat).mono g.d))
/-! split -/
def rSplitD : V → List V → Hp → VK → Prop := fun x xs H Q => ∃ a b, x = .str a ∧ xs = [.str b] ∧ (b.length == 0) = false ∧ a.length + 2 ≤ sizeLine ∧ rNewStrs (Txt.split a b) H Q
theorem ev_split {to te : TE} {Γ : List Sk} {m m1 : Nat} {a b : Str} (h : Ev c to Γ m (· = .str a)) (h2 : Ev c te Γ m1 (· = .str b)) (hb : (b.length == 0) = false) (ha : a.length ≤ 1000000) : Ev c (tM1 rSplitD to te) Γ (m + m1) (· = .lst ((Txt.split a b).map .str)) := fun σ Hd H n s sa pe l x Q q =>
  h σ Hd H n s sa pe (by omega) x _ fun v d Hd1 H1 g1 pe1 e r1 => by
    subst e; cases r1
    refine ⟨⟨a, rfl⟩, h2 σ Hd1 H1 _ (s.grow g1) g1.s pe1 (by omega) (x.grow g1) _ fun v d Hd2 H2 g2 pe2 e r2 => ?_⟩
    subst e; cases r2
    refine ⟨a, b, rfl, rfl, hb, by rw [sizeLine_eq]; omega, fun p hp => ?_⟩
    have g := Grow.new (p := none) (o := HO.lst ((Txt.split a b).map V.str)) g2.s hp
    exact q _ _ _ _ ((g1.trans g2).trans g.up) (by rw [← Nat.add_assoc]; exact pe2.grow g) rfl (.lst upd_same (reps_strs _))
/-! dicts read -/
def keyD : Key → D
  | .inl i => .int i | .inr x => .str x
def valD : List Key → List D → Key → Option D
  | k :: ks, d :: ds, j => if k = j then some d else valD ks ds j
  | _, _, _ => none
theorem valV_zip {K : PySem.W.Frag} {H : Hp} {j : Key} : ∀ {ks : List Key} {xs : List V} {ds : List D}, Reps K H xs ds → ∀ {d : D}, valD ks ds j = some d → ∃ v, valV (ks.zip xs) j = some v ∧ Rep K H v d
  | [], _, _, _, d, h => by unfold valD at h; cases h
  | k :: ks, _, _, .nil, d, h => by unfold valD at h; cases h
  | k :: ks, x :: xs, e :: ds, .cons h1 r, d, h => by
    rw [List.zip_cons_cons]
    by_cases z : k = j
    · rw [show valD (k :: ks) (e :: ds) j = some e from if_pos z] at h
      cases h
      exact ⟨x, valV_pos (p := (k, x)) z, h1⟩
    · rw [show valD (k :: ks) (e :: ds) j = valD ks ds j from if_neg z] at h
      obtain ⟨v, q1, q2⟩ := valV_zip r h
      exact ⟨v, by rw [valV_neg (p := (k, x)) z]; exact q1, q2⟩
theorem ev_dget {td ty : TE} {Γ : List Sk} {m m1 : Nat} {ks : List Key} {ds : List D} {j : Key} {d : D} (h : Ev c td Γ m (· = .dct ks ds)) (h2 : Ev c ty Γ m1 (· = keyD j)) (hv : valD ks ds j = some d) : Ev c (tDGet td ty) Γ (m + m1) (· = d) := fun σ Hd H n s sa pe l x Q q =>
  h σ Hd H n s sa pe (by omega) x _ fun v d' Hd1 H1 g1 pe1 e r1 => h2 σ Hd1 H1 _ (s.grow g1) g1.s pe1 (by omega) (x.grow g1) _ fun v2 d2 Hd2 H2 g2 pe2 e2 r2 => by
    subst e; subst e2
    cases r1 with | dct z1 z2 z3 =>
    obtain ⟨w, q1, q2⟩ := valV_zip (z3.mono g2.d) hv
    have ek : v2 = kV j := by cases j <;> (cases r2; rfl)
    subst ek
    exact ⟨_, w, rfl, by rw [← q1]; exact DGet.k (g2.s _ _ (g2.d _ _ z1)), q w _ Hd2 H2 (g1.trans g2) (by rw [← Nat.add_assoc]; exact pe2) rfl q2⟩
/-- a written dict -/
def tPs : List (Str × TE) → List (TE × TE)
  | [] => []
  | (k, t) :: r => (tC (.str k), t) :: tPs r
end
end DL
set_option maxRecDepth 100000
set_option maxHeartbeats 4000000
/-! DL9: defs by name (Cal), unpacking, the pen's own dict. -/
namespace DL
open PySem L2 PyProof.Rows
variable [Tbl]

/-- a def of the text, found by its name, that keeps a promise; ds: its defaults -/
structure Cal (P : Program) (w : World) (K : PySem.W.Frag) (mg : Str → Option Value) (base : Heap) (x : Str) (k : Nat) (ps : List Str) (dvs : List V) (sp : Sp) : Prop where
  ex : ∃ f fd ds, FnG P w K mg base CX0 k f fd ps sp ∧ mg x = some (.ref f) ∧ PySem.W.keepIn K (.ref f) = true ∧ Binds K fd ps ds ∧ Vals dvs ds
/-- the def as it stands -/
structure Def (K : PySem.W.Frag) (mg : Str → Option Value) (x : Str) (st : Stmt) (ps : List Str) (dvs : List V) : Prop where
  ex : ∃ f fd ds, FunV K x x st f fd ∧ mg x = some (.ref f) ∧ Binds K fd ps ds ∧ Vals dvs ds
section
variable {P : Program} {w : World} {K : PySem.W.Frag} {mg : Str → Option Value} {base : Heap} {x : Str} {k : Nat} {ps N : List Str} {dvs : List V} {sp : Sp} {st : Stmt} {pre : List D → Prop} {post : List D → D → Prop} {m : Nat}
theorem Cal.mono {j : Nat} (C : Cal P w K mg base x j ps dvs sp) (h : j ≤ k) : Cal P w K mg base x k ps dvs sp := by
  obtain ⟨f, fd, ds, F, r⟩ := C.ex
  exact ⟨f, fd, ds, F.mono h, r⟩
theorem cal_P (Df : Def K mg x st ps dvs) (S : FnScope N ps (defScope st)) (hl : ∀ ds, pre ds → ds.length = ps.length)
    (hb : ∀ (f : Addr) (cdv : Value) (A : Around) (outer : List Env) (s : Shared) (H : Hp) (E : XK), Room k (A.deeper (envOfC x (defScope st) s.heap.objs.size f cdv)) → NoG (A.deeper (envOfC x (defScope st) s.heap.objs.size f cdv)) → ∀ ds, pre ds →
      ∃ t, PSs (cxOf CX0 P w K mg base N x (defScope st) f cdv A outer s H E).nox (defBody st) t ∧ ∀ p, Wp ⟨K, p, L2.E0, fun _ _ => False⟩ t (G0 N ds) 0 (retW (post ds))) : Cal P w K mg base x (k + 1) ps dvs (SpP K pre post) := by
  obtain ⟨f, fd, ds, F, hm, b, v⟩ := Df.ex
  exact ⟨f, fd, ds, fn_P F S hl (hb f), hm, F.kp, b, v⟩
theorem cal_G (Df : Def K mg x st ps dvs) (S : FnScope N ps (defScope st)) (hl : ∀ ds, pre ds → ds.length + 1 = ps.length)
    (hb : ∀ (f : Addr) (cdv : Value) (A : Around) (outer : List Env) (s : Shared) (H : Hp) (E : XK), Room k (A.deeper (envOfC x (defScope st) s.heap.objs.size f cdv)) → NoG (A.deeper (envOfC x (defScope st) s.heap.objs.size f cdv)) → ∀ ds, pre ds →
      ∃ t, PSs (cxOf CX0 P w K mg base N x (defScope st) f cdv A outer s H E).nox (defBody st) t ∧ ∀ a cc, Wp ⟨K, some (a, cc), L2.E0, fun _ _ => False⟩ t (G1 N ds) m (retW (post ds))) : Cal P w K mg base x (k + 1) ps dvs (SpG K m pre post) := by
  obtain ⟨f, fd, ds, F, hm, b, v⟩ := Df.ex
  exact ⟨f, fd, ds, fn_G F S hl (hb f), hm, F.kp, b, v⟩
theorem cal_raw (Df : Def K mg x st ps dvs) (S : FnScope N ps (defScope st)) (len : ∀ vs H Q E, sp vs H Q E → vs.length = ps.length)
    (hb : ∀ (f : Addr) (cdv : Value) (A : Around) (outer : List Env) (s : Shared) (H : Hp) (vs : List V) (Q : VK) (E : XK), Room k (A.deeper (envOfC x (defScope st) s.heap.objs.size f cdv)) → NoG (A.deeper (envOfC x (defScope st) s.heap.objs.size f cdv)) → sp vs H Q E →
      ∃ t, PSs (cxOf CX0 P w K mg base N x (defScope st) f cdv A outer s H E).nox (defBody st) t ∧ t { nx := fun _ H' => Q .non H', rt := Q } (L2.start N vs) H) : Cal P w K mg base x (k + 1) ps dvs sp := by
  obtain ⟨f, fd, ds, F, hm, b, v⟩ := Df.ex
  refine ⟨f, fd, ds, fng_of F S len fun cdv A outer s H vs Q E r ng h => ?_, hm, F.kp, b, v⟩
  obtain ⟨t, h1, h2⟩ := hb f cdv A outer s H vs Q E r ng h
  exact ⟨t, h1.nox, h2⟩
end
section
variable {X : Cx} {x : Str} {k j : Nat} {ps : List Str} {dvs : List V} {sp : Sp} {e : Expr} {es : List Expr} {t : TA} {p pos : Pos}
theorem peg_cal (C : Cal X.prog X.w X.K X.mg X.base x j ps dvs sp) (hr : Room k X.A) (hj : j ≤ k) (ng : NoG X.A) (hg : Gl X x) (ha : PA X (e :: es) t)
    (h1 : (x == ("__debug__" : Str)) = false := by decide) (h2 : starEach (e :: es) X.env = (false, eval e X.env) :: starEach es X.env := by rfl) (h3 : (backTo pos (starEach es X.env)).any (·.1) = false := by rfl) : PE X (.Call (.Name x p) (e :: es) [] pos) (tCall sp dvs L2.E0 t) := by
  obtain ⟨f, fd, ds, F, hm, kp, b, v⟩ := C.ex
  exact peg_call F (hr.mono hj) ng hg hm kp b v pass0 ha h1 h2 h3
theorem peg_cal0 (C : Cal X.prog X.w X.K X.mg X.base x j ps dvs sp) (hr : Room k X.A) (hj : j ≤ k) (ng : NoG X.A) (hg : Gl X x) (h1 : (x == ("__debug__" : Str)) = false := by decide) : PE X (.Call (.Name x p) [] [] pos) (tCall sp dvs L2.E0 tNil) := by
  obtain ⟨f, fd, ds, F, hm, kp, b, v⟩ := C.ex
  exact peg_call0 F (hr.mono hj) ng hg hm kp b v pass0 h1
/-- a name of the module -/
theorem pe_globE {x : Str} {v : V} {pos : Pos} (hg : Gl X x) (h : ∃ u, X.mg x = some u ∧ RelV v u) (hd : (x == ("__debug__" : Str)) = false := by decide) : PE X (.Name x pos) (tC v) := by
  obtain ⟨u, h1, h2⟩ := h
  exact pe_glob hg h1 h2 hd
end
/-! ### a, b, .. = a list or a tuple -/
def gSeq (K : PySem.W.Frag) (n : Nat) (t : TGs) : TG := fun v σ H Q => gTup K n t v σ H Q ∨ gUnl K n t v σ H Q
theorem pg_seq {X : Cx} {pos : Pos} {es : List Expr} {k : Nat} {t : TGs} {n : Nat} (hc : X.calm = true) (h : PGs X es t) (hn : (assignEach es X.env).length = n := by rfl) (hst : (assignEach es X.env).findIdx? (·.1) = none := by rfl) : PG X (.Tuple es k pos) (gSeq X.K n t) :=
  ⟨fun pins s σ H v u Q I r q => q.elim (fun q => (pg_tup (pos := pos) (k := k) hc h hn hst).run pins s σ H v u Q I r q) fun q => (pg_unl (pos := pos) (k := k) hc h hn hst).run pins s σ H v u Q I r q⟩
section
variable {c : Ct} {Γ : List Sk} {m m1 m2 : Nat} {te : TE} {u : TS} {W : Wh}
theorem tg_seq {gs : TGs} {d : D} {ds : List D} {ps : List (Nat × D)} {n : Nat} (e : d.its = some ds) (h : TgDs c gs ds ps) (hn : ds.length = n := by rfl) : TgD c (gSeq c.K n gs) d ps := fun σ Hd H v Γ s sa r Q q => by
  cases r with
  | tup h1 r => cases e; exact .inl ⟨_, _, rfl, same_sqt sa h1, by rw [r.length, hn], h σ Hd H _ Γ s sa r Q q⟩
  | lst h1 r => cases e; exact .inr ⟨_, _, rfl, SqL.of (sa _ _ h1), by rw [r.length, hn], h σ Hd H _ Γ s sa r Q q⟩
  | _ => cases e
/-- target = e -/
theorem wp_asgT {g : TG} {φ : D → Prop} (h : Ev c te Γ m φ) (k : ∀ d, φ d → ∃ ps, TgD c g d ps ∧ W.N (setD Γ ps)) : Wp c (tAsg te g) Γ m W := fun Hb Hd0 H0 σ Hd H n o l x E k1 k2 k3 k4 =>
  h σ Hd H n o.sr o.g.s o.pe l (x.grow o.g) _ fun v d Hd' H' g' pe f r => by
    obtain ⟨ps, tg, w⟩ := k d f
    have o' := o.grow g' pe
    exact tg σ Hd' H' v Γ o'.sr o'.g.s r _ fun σ' s' _ q => k1 _ _ _ _ w (o'.tg s' q)
theorem wq_asgT {g : TG} {φ : D → Prop} (h : Ev c te Γ m1 φ) (k : ∀ d, φ d → ∃ ps, TgD c g d ps ∧ Wp c u (setD Γ ps) m2 W) : Wp c (tSeq (tAsg te g) u) Γ (m1 + m2) W := wp_seqW (N' := fun G => Wp c u G m2 W) (wp_asgT h k) fun _ w => w
/-- a, b = e, f -/
theorem wq_par {i j : Nat} {ta : TA} {ψ : List D → Prop} (h : EvA c ta Γ m1 ψ) (k : ∀ ds, ψ ds → ∃ a b, ds = [a, b] ∧ Wp c u ((Γ.set i (.dat a)).set j (.dat b)) m2 W) : Wp c (tSeq (tPar i j ta) u) Γ (m1 + m2) W :=
  wp_seqW (N' := fun G => Wp c u G m2 W) (fun Hb Hd0 H0 σ Hd H n o l x E k1 k2 k3 k4 => h σ Hd H n o.sr o.g.s o.pe l (x.grow o.g) _ fun vs ds Hd' H' g pe f r => by
    obtain ⟨a, b, e, w⟩ := k ds f
    subst e
    cases r with | cons ra r => cases r with | cons rb r => cases r; exact ⟨_, _, rfl, k1 _ _ _ _ w (((o.grow g pe).set ra).set rb)⟩) fun _ w => w
theorem wq_par_ {i j : Nat} {ta : TA} {a b : D} (h : EvA c ta Γ m1 (· = [a, b])) (k : Wp c u ((Γ.set i (.dat a)).set j (.dat b)) m2 W) : Wp c (tSeq (tPar i j ta) u) Γ (m1 + m2) W := wq_par h fun _ e => ⟨a, b, e, k⟩
/-- calls with defaults -/
theorem ev_callD {K : PySem.W.Frag} {ta : TA} {E : XK} {pre : List D → Prop} {post : List D → D → Prop} {ds : List D} {dvs : List V} {des : List D} {r : D} (hd : ∀ H, Reps c.K H dvs des) (h : EvA c ta Γ m (· = ds)) (hp : pre (ds ++ des)) (hq : ∀ d, post (ds ++ des) d → d = r) (hK : K = c.K := by rfl) : Ev c (tCall (SpP K pre post) dvs E ta) Γ m (· = r) := fun σ Hd H n s sa pe l x Q q =>
  h σ Hd H n s sa pe l x _ fun vs ds' Hd1 H1 g1 pe1 f rr => by
    subst hK; subst f
    exact ⟨Hd1, ds' ++ des, g1.s, rr.append (hd Hd1), hp, fun v d Hd2 H2 g2 f2 r2 => q v d Hd2 H2 (g1.trans g2.up) (pe1.grow g2) (hq d f2) r2⟩
end
/-! ### the pen's dict -/
section
variable {cc : Addr} {i dg ct fd v : Int}
theorem pen_cells : valV (penKvs cc i dg ct fd) (.inr "cells") = some (.ref cc) := rfl
theorem pen_at : valV (penKvs cc i dg ct fd) (.inr "at") = some (.int i) := rfl
theorem pen_digits : valV (penKvs cc i dg ct fd) (.inr "digits") = some (.int dg) := rfl
theorem pen_count : valV (penKvs cc i dg ct fd) (.inr "count") = some (.int ct) := rfl
theorem pen_fold : valV (penKvs cc i dg ct fd) (.inr "fold") = some (.int fd) := rfl
theorem put_at : putK (penKvs cc i dg ct fd) (.inr "at") (.int v) = penKvs cc v dg ct fd := rfl
theorem put_digits : putK (penKvs cc i dg ct fd) (.inr "digits") (.int v) = penKvs cc i v ct fd := rfl
theorem put_count : putK (penKvs cc i dg ct fd) (.inr "count") (.int v) = penKvs cc i dg v fd := rfl
theorem put_fold : putK (penKvs cc i dg ct fd) (.inr "fold") (.int v) = penKvs cc i dg ct v := rfl
end
end DL
set_option maxRecDepth 100000
set_option maxHeartbeats 4000000
/-! DLpen: how the pen is made and how it draws, whatever the law's text is called. -/
namespace DL
open PySem L2 PyProof.Rows
variable [Tbl]
abbrev preDraw : List D → Prop := fun ds => ∃ n : Int, ds = [.int n] ∧ 0 < n ∧ n < 1073741824
abbrev postDraw : List D → D → Prop := fun ds d => ∃ n r : Int, ds = [.int n] ∧ d = .int r ∧ 0 ≤ r ∧ r < n
abbrev tG (k : Str) : TE := tDGet (tVar 0) (tC (.str k))
abbrev tI (i : Int) : TE := tC (.int i)
abbrev tIntC (t : TE) : TE := tCB (fun xs H Q => (∃ i, xs = [V.int i] ∧ Q (V.int i) H) ∨ ∃ k, xs = [V.bl k] ∧ Q (V.int (if k = true then 1 else 0)) H) (tCons t tNil)
abbrev tPw (a b : Int) : TE := tOp (rI CPow fun i j => V.int (i ^ j.toNat)) (tI a) (tI b)
abbrev tMd (a b : TE) : TE := tOp (rI (fun x j => 0 < j) fun i j => V.int (i % j)) a b
abbrev tDv (a b : TE) : TE := tOp (rI CDiv fun i j => V.int (i / j)) a b
abbrev tDraw (K : PySem.W.Frag) : TS :=
  tSeq (sDPut (tVar 0) (tC (.str "count")) (tOp (rAddU K) (tG "count") (tI 1)))
   (tSeq (tIfS (tAnd (tTest (tOp (rEqD K) (tG "digits") (tI 0))) (tTest (tOp (rI0 fun i j => V.bl (decide (i < j))) (tG "at") (tCB (fun xs H Q => ∃ x n, xs = [x] ∧ LenV K x H n ∧ Q (V.int n) H) (tCons (tG "cells") tNil)))))
      (tSeq (tAsg (tOp (rIx K) (tG "cells") (tG "at")) (gName 2))
       (tSeq (sDPut (tVar 0) (tC (.str "at")) (tOp (rAddU K) (tG "at") (tI 1)))
        (tIfS (tTest (tOp (rI0 fun i j => V.bl (decide (j ≤ i))) (tVar 2) (tPw 10 18)))
          (sDPut (tVar 0) (tC (.str "digits")) (tOp (rI0 fun i j => V.int (i - j)) (tVar 2) (tPw 10 18)))
          (sDPut (tVar 0) (tC (.str "fold")) (tMd (tIntC (tOp (rAddU K) (tOp (rMulU K) (tG "fold") (tI 71473)) (tVar 2))) (tI 2147483587))))))
      tNext)
    (tSeq (tIfS (tTest (tOp (rI0 fun i j => V.bl (decide (j < i))) (tG "digits") (tI 0)))
       (tSeq (tAsg (tMd (tIntC (tG "digits")) (tVar 1)) (gName 3)) (tSeq (sDPut (tVar 0) (tC (.str "digits")) (tDv (tG "digits") (tVar 1))) (tRet (tVar 3))))
       tNext)
     (tSeq (tAsg (tOp (rAddU K) (tOp (rAddU K) (tG "fold") (tOp (rMulU K) (tG "count") (tI 7907))) (tI 67)) (gName 4))
      (tRet (tMd (tDv (tIntC (tMd (tOp (rI CPow fun i j => V.int (i ^ j.toNat)) (tVar 4) (tI 17)) (tI 2305843009213693951))) (tI 128)) (tVar 1))))))
section
variable {K : PySem.W.Frag} {σ : L2.St} {H : Hp} {p : Addr} {kvs : List (Key × V)} {k : Str} {v : V} {Q : VK}
theorem rd_get (hs : σ[0]? = some (some (.ref p))) (hp : H p = some (.dK kvs)) (hv : valV kvs (.inr k) = some v) (q : Q v H) : tG k σ H Q :=
  ⟨_, hs, p, v, rfl, by rw [← hv]; exact DGet.k (k := .inr k) hp, q⟩
theorem dput_of (hp : H p = some (.dK kvs)) (hl : kvs.length < 100) : DPut H p (.str k) v (upd H p (.dK (putK kvs (.inr k) v))) := DPut.k (k := .inr k) hp (by rw [sizeLine_eq]; omega)
theorem draw_ok {a cc : Addr} {Hd : Hp} {n : Nat} {many : Int} (sa : Same Hd H) (pe : PenAt n Hd H a cc) (hn : n + 1 ≤ LIM) (m0 : 0 < many) (m1 : many < 1073741824)
    (q : ∀ (v : V) (d : D) (Hd' H' : Hp), Grow (some a) Hd H Hd' H' → PenAt (n + 1) Hd' H' a cc → postDraw [D.int many] d → Rep K Hd' v d → Q v H') :
    tDraw K { nx := fun _ H' => Q V.non H', rt := Q } [some (.ref a), some (.int many), none, none, none] H := by
  obtain ⟨⟨i, dg, ct, fd, hp, i0, d0, c0, c1, f0, f1⟩, nd, ⟨ns, hc, nl⟩, ht⟩ := pe
  have nca : cc ≠ a := fun z => by subst z; rw [nd] at hc; cases hc
  -- what is wanted of an end
  have fin : ∀ (r : Int) (H' : Hp) (i dg ct fd : Int), (∀ b, b ≠ a → H' b = H b) → H' a = some (.dK (penKvs cc i dg ct fd)) → 0 ≤ i → 0 ≤ dg → 0 ≤ ct → ct ≤ n + 1 → 0 ≤ fd → fd < 2147483587 → 0 ≤ r → r < many → Q (.int r) H' := by
    intro r H' i dg ct fd same hp' a1 a2 a3 a4 a5 a6 a7 a8
    have ne : ∀ b o, Hd b = some o → b ≠ a := fun b o e z => by subst z; rw [nd] at e; cases e
    refine q _ (.int r) Hd H' ⟨Same.refl _, fun b o z _ e => ?_, fun b o e => ?_, fun _ _ z => z, fun b e => ?_, fun z => tabs_same z (pl_some hp rfl) hp' same⟩ ⟨⟨i, dg, ct, fd, hp', a1, a2, a3, by omega, a5, a6⟩, nd, ⟨ns, hc, nl⟩, tabs_same ht.1 (pl_some hp rfl) hp' same, ht.2⟩ ⟨many, r, rfl, rfl, a7, a8⟩ (.int r)
    · rw [same b (fun y => z (by rw [y]))]; exact e
    · rw [same b (ne b o e)]; exact sa _ _ e
    · by_cases z : b = a
      · subst z; rw [hp']; exact fun y => nomatch y
      · rw [same b z]; exact e
  -- the last part, from any state of the pen
  have last : ∀ (σ : L2.St) (H' : Hp) (i dg ct fd : Int), σ[0]? = some (some (.ref a)) → σ[1]? = some (some (.int many)) → σ.length = 5 → (∀ b, b ≠ a → H' b = H b) → H' a = some (.dK (penKvs cc i dg ct fd)) → 0 ≤ i → 0 ≤ dg → 0 ≤ ct → ct ≤ n + 1 → 0 ≤ fd → fd < 2147483587 →
      (tSeq (tIfS (tTest (tOp (rI0 fun i j => V.bl (decide (j < i))) (tG "digits") (tI 0)))
       (tSeq (tAsg (tMd (tIntC (tG "digits")) (tVar 1)) (gName 3)) (tSeq (sDPut (tVar 0) (tC (.str "digits")) (tDv (tG "digits") (tVar 1))) (tRet (tVar 3))))
       tNext)
     (tSeq (tAsg (tOp (rAddU K) (tOp (rAddU K) (tG "fold") (tOp (rMulU K) (tG "count") (tI 7907))) (tI 67)) (gName 4))
      (tRet (tMd (tDv (tIntC (tMd (tOp (rI CPow fun i j => V.int (i ^ j.toNat)) (tVar 4) (tI 17)) (tI 2305843009213693951))) (tI 128)) (tVar 1))))) { nx := fun _ H' => Q V.non H', rt := Q } σ H' := by
    intro σ H' i dg ct fd h0 h1 hl same hp' a1 a2 a3 a4 a5 a6
    refine rd_get h0 hp' pen_digits ⟨_, _, rfl, rfl, _, rfl, ite2 (fun hpos => ?_) fun hneg => ?_⟩
    · have hpos' : 0 < dg := of_decide_eq_true hpos
      refine rd_get h0 hp' pen_digits (.inl ⟨_, rfl, _, h1, _, _, rfl, rfl, m0, ?_⟩)
      have s0 : (σ.set 3 (some (V.int (dg % many))))[0]? = some (some (.ref a)) := by rw [List.getElem?_set_ne (by decide)]; exact h0
      have s1 : (σ.set 3 (some (V.int (dg % many))))[1]? = some (some (.int many)) := by rw [List.getElem?_set_ne (by decide)]; exact h1
      have s3 : (σ.set 3 (some (V.int (dg % many))))[3]? = some (some (V.int (dg % many))) := List.getElem?_set_self (by omega)
      refine rd_get s0 hp' pen_digits ⟨_, s1, _, _, rfl, rfl, ⟨m0, m1⟩, _, s0, a, _, rfl, dput_of hp' (show 5 < 100 by decide), _, s3, ?_⟩
      rw [put_digits]
      refine fin (dg % many) _ i (dg / many) ct fd (fun b z => ?_) upd_same a1 (Int.ediv_nonneg a2 (by omega)) a3 a4 a5 a6 (Int.emod_nonneg _ (by omega)) (Int.emod_lt_of_pos _ m0)
      rw [upd_ne z]; exact same b z
    · refine rd_get h0 hp' pen_fold (rd_get h0 hp' pen_count (.inl ⟨_, _, rfl, rfl, .inr (by omega), .inl ⟨_, _, rfl, rfl, .inl ⟨_, _, rfl, rfl, ?_⟩⟩⟩))
      have s1 : (σ.set 4 (some (V.int (fd + ct * 7907 + 67))))[1]? = some (some (.int many)) := by rw [List.getElem?_set_ne (by decide)]; exact h1
      have s4 : (σ.set 4 (some (V.int (fd + ct * 7907 + 67))))[4]? = some (some (V.int (fd + ct * 7907 + 67))) := List.getElem?_set_self (by omega)
      have hL : (n : Int) + 1 ≤ 1000000000000 := by have : n + 1 ≤ 1000000000000 := hn; omega
      refine ⟨_, s4, _, _, rfl, rfl, ⟨by decide, by decide, by omega⟩, _, _, rfl, rfl, (show (0 : Int) < 2305843009213693951 by decide), .inl ⟨_, rfl, _, _, rfl, rfl, ⟨by decide, by decide⟩, _, s1, _, _, rfl, rfl, m0, ?_⟩⟩
      exact fin _ _ i dg ct fd same hp' a1 a2 a3 a4 a5 a6 (Int.emod_nonneg _ (by omega)) (Int.emod_lt_of_pos _ m0)
  -- count
  have s0 : ([some (.ref a), some (.int many), none, none, none] : L2.St)[0]? = some (some (.ref a)) := rfl
  refine rd_get s0 hp pen_count (.inl ⟨_, _, rfl, rfl, _, s0, a, _, rfl, dput_of hp (show 5 < 100 by decide), ?_⟩)
  rw [put_count]
  have hp1 : upd H a (.dK (penKvs cc i dg (ct + 1) fd)) a = some (.dK (penKvs cc i dg (ct + 1) fd)) := upd_same
  generalize hH1 : upd H a (.dK (penKvs cc i dg (ct + 1) fd)) = H1 at hp1
  have same1 : ∀ b, b ≠ a → H1 b = H b := fun b z => by rw [← hH1]; exact upd_ne z
  have hcc : H1 cc = some (.lst (ns.map V.int)) := by rw [same1 cc nca]; exact sa _ _ hc
  refine rd_get s0 hp1 pen_digits ⟨.int dg, .int 0, .int _, .int _, rfl, rfl, _, rfl, ite2 (fun z => ?_) fun z => ?_⟩
  · have dz : dg = 0 := by
      have z' : (dg == 0) = true := z
      exact eq_of_beq z'
    refine rd_get s0 hp1 pen_at (rd_get s0 hp1 pen_cells ⟨_, _, rfl, .inl ⟨_, SqL.of hcc, rfl⟩, _, _, rfl, rfl, _, rfl, ite2 (fun y => ?_) fun y => ?_⟩)
    · have y' := of_decide_eq_true y
      rw [List.length_map] at y'
      obtain ⟨j, rfl⟩ : ∃ j : Nat, i = (j : Int) := ⟨i.toNat, by omega⟩
      have hj : j < ns.length := by omega
      have hcell : atI (ns.map V.int) (j : Int) = some (V.int ns[j]) := atI_nat (by rw [List.getElem?_map, List.getElem?_eq_getElem hj]; rfl)
      refine rd_get s0 hp1 pen_cells (rd_get s0 hp1 pen_at (.inl ⟨_, _, _, _, rfl, rfl, SqL.of hcc, hcell, ?_⟩))
      have t0 : (([some (.ref a), some (.int many), none, none, none] : L2.St).set 2 (some (V.int ns[j])))[0]? = some (some (.ref a)) := rfl
      have t1 : (([some (.ref a), some (.int many), none, none, none] : L2.St).set 2 (some (V.int ns[j])))[1]? = some (some (.int many)) := rfl
      have t2 : (([some (.ref a), some (.int many), none, none, none] : L2.St).set 2 (some (V.int ns[j])))[2]? = some (some (V.int ns[j])) := rfl
      generalize ns[j] = cell at t0 t1 t2 ⊢
      refine rd_get t0 hp1 pen_at (.inl ⟨_, _, rfl, rfl, _, t0, a, _, rfl, dput_of hp1 (show 5 < 100 by decide), ?_⟩)
      rw [put_at]
      have hp2 : upd H1 a (.dK (penKvs cc ((j : Int) + 1) dg (ct + 1) fd)) a = some (.dK (penKvs cc ((j : Int) + 1) dg (ct + 1) fd)) := upd_same
      generalize hH2 : upd H1 a (.dK (penKvs cc ((j : Int) + 1) dg (ct + 1) fd)) = H2 at hp2
      have same2 : ∀ b, b ≠ a → H2 b = H b := fun b z => by rw [← hH2, upd_ne z]; exact same1 b z
      refine ⟨_, t2, _, _, rfl, rfl, ⟨by decide, by decide, by decide⟩, _, _, rfl, rfl, _, rfl, ite2 (fun x => ?_) fun x => ?_⟩
      · have x' := of_decide_eq_true x
        refine ⟨_, t2, _, _, rfl, rfl, ⟨by decide, by decide, by decide⟩, _, _, rfl, rfl, _, t0, a, _, rfl, dput_of hp2 (show 5 < 100 by decide), ?_⟩
        rw [put_digits]
        exact last _ _ _ _ _ _ t0 t1 rfl (fun b z => by rw [upd_ne z]; exact same2 b z) upd_same (by omega) (by omega) (by omega) (by omega) f0 f1
      · refine rd_get t0 hp2 pen_fold (.inl ⟨_, _, rfl, rfl, .inr (by omega), _, t2, .inl ⟨_, _, rfl, rfl, .inl ⟨_, rfl, _, _, rfl, rfl, (show (0 : Int) < 2147483587 by decide), _, t0, a, _, rfl, dput_of hp2 (show 5 < 100 by decide), ?_⟩⟩⟩)
        rw [put_fold]
        exact last _ _ _ _ _ _ t0 t1 rfl (fun b z => by rw [upd_ne z]; exact same2 b z) upd_same (by omega) d0 (by omega) (by omega) (Int.emod_nonneg _ (by decide)) (Int.emod_lt_of_pos _ (by decide))
    · exact last _ _ _ _ _ _ s0 rfl rfl same1 hp1 i0 d0 (by omega) (by omega) f0 f1
  · exact last _ _ _ _ _ _ s0 rfl rfl same1 hp1 i0 d0 (by omega) (by omega) f0 f1

/-! ### the pen made -/
def SpPen (K : PySem.W.Frag) : Sp := fun vs H Q _ => ∃ (a : Addr) (ns : List Int), vs = [.ref a] ∧ SqL K H a (ns.map V.int) ∧ ns.length ≤ 63 ∧
  ∀ (p c : Addr) (fd : Int) (H' : Hp), Same H H' → H p = none → H c = none → c ≠ p → H' p = some (.dK (penKvs c 0 0 0 fd)) → H' c = some (.lst (ns.map V.int)) → 0 ≤ fd → fd < 2147483587 → Q (.ref p) H'
def SpLaw (K : PySem.W.Frag) : Sp := fun vs H Q _ => ∃ (a : Addr) (ns : List Int), vs = [.ref a] ∧ SqL K H a (ns.map V.int) ∧ ns.length ≤ 63 ∧ ∀ H', Q (.bl true) H'
abbrev tPenMake (K : PySem.W.Frag) : TS :=
  tSeq (tAsg (tI 0) (gName 1)) (tSeq (tFor (iSeq K (tVar 0)) (gName 2) (tAsg (tMd (tIntC (tOp (rAddU K) (tOp (rMulU K) (tVar 1) (tI 59)) (tVar 2))) (tI 1000000021)) (gName 1)))
   (tRet (tDisp [(tC (.str "cells"), tCB (fun xs H Q => ∃ p ys, xs = [.ref p] ∧ (SqL K H p ys ∨ SqT K H p ys) ∧ ∀ l, H l = none → Q (.ref l) (upd H l (.lst ys))) (tCons (tVar 0) tNil)), (tC (.str "at"), tI 0), (tC (.str "digits"), tI 0), (tC (.str "count"), tI 0), (tC (.str "fold"), tVar 1)])))
theorem penMake_ok {a : Addr} {ns : List Int} {H : Hp} (hs : SqL K H a (ns.map V.int)) (q : ∀ (p c : Addr) (fd : Int) (H' : Hp), Same H H' → H p = none → H c = none → c ≠ p → H' p = some (.dK (penKvs c 0 0 0 fd)) → H' c = some (.lst (ns.map V.int)) → 0 ≤ fd → fd < 2147483587 → Q (.ref p) H') :
    tPenMake K { nx := fun _ H' => Q V.non H', rt := Q } [some (.ref a), none, none] H := by
  refine ⟨_, rfl, .inl ⟨a, rfl, ⟨_, hs⟩, for_list (K := K) (a := a) (xs := ns.map V.int) (fun _ σ H' => H' = H ∧ ∃ (fd : Int) (o : Option V), 0 ≤ fd ∧ fd < 1000000021 ∧ σ = [some (.ref a), some (.int fd), o]) ⟨rfl, 0, none, by decide, by decide, rfl⟩ (fun _ _ _ _ z => by rw [z.1]; exact hs) ?_ ?_⟩⟩
  · rintro i y σ H' hy ⟨rfl, fd, o, f0, f1, rfl⟩
    obtain ⟨cell, rfl⟩ : ∃ cell, y = V.int cell := by
      rw [List.getElem?_map] at hy
      cases z : ns[i]? with
      | none => rw [z] at hy; cases hy
      | some cell => rw [z] at hy; exact ⟨cell, (Option.some.inj hy).symm⟩
    refine ⟨_, rfl, .inl ⟨_, _, rfl, rfl, .inr (by omega), _, rfl, .inl ⟨_, _, rfl, rfl, .inl ⟨_, rfl, _, _, rfl, rfl, (show (0 : Int) < 1000000021 by decide), rfl, _, _, Int.emod_nonneg _ (by decide), Int.emod_lt_of_pos _ (by decide), rfl⟩⟩⟩⟩
  · rintro σ H' ⟨rfl, fd, o, f0, f1, rfl⟩
    refine fun p hp => ⟨_, rfl, a, _, rfl, .inl (Same.seq (fun b u e => ?_) hs), fun l hl => ⟨_, rfl, ?_⟩⟩
    · rw [upd_ne (ne_of_none e hp)]; exact e
    have nlp : l ≠ p := fun z => by subst z; rw [upd_same] at hl; cases hl
    have hl0 : H' l = none := by rw [upd_ne nlp] at hl; exact hl
    refine ⟨by rw [upd_ne nlp.symm]; exact upd_same, [(.inr "cells", .ref l), (.inr "at", .int 0), (.inr "digits", .int 0), (.inr "count", .int 0), (.inr "fold", .int fd)], rfl, (show 5 ≤ 15 by decide), ?_⟩
    refine q p l fd _ (fun b u e => ?_) hp hl0 nlp upd_same (by rw [upd_ne nlp]; exact upd_same) f0 (by omega)
    have z1 : b ≠ p := ne_of_none e hp
    have z2 : b ≠ l := ne_of_none e hl0
    rw [upd_ne z1, upd_ne z2, upd_ne z1]; exact e
/-! ### a law from its pen on -/
def GL (n : Nat) : List Sk := .un :: .pen :: List.replicate n .un
theorem law_start {N : List Str} {n m : Nat} {a : Addr} {ns : List Int} {H : Hp} {rest : TS} {E : XK} (hN : N.length = n + 2) (hm : m ≤ LIM) (hs : SqL K H a (ns.map V.int)) (hl : ns.length ≤ 63) (ht : LamX.Tabs Tbl.T H)
    (hw : ∀ p c, Wp ⟨K, some (p, c), L2.E0, fun _ _ => False⟩ rest (GL n) m (retW (· = .bl true))) (q : ∀ H', Q (.bl true) H') :
    tSeq (tAsg (tCall (SpPen K) [] E (tCons (tVar 0) tNil)) (gName 1)) rest { nx := fun _ H' => Q V.non H', rt := Q } (L2.start N [.ref a]) H := by
  have st : L2.start N [.ref a] = some (.ref a) :: none :: List.replicate n none := by
    unfold L2.start
    rw [hN]
    show some (V.ref a) :: List.replicate (n + 1) none = _
    rw [List.replicate_succ]
  rw [st]
  refine ⟨_, rfl, a, ns, rfl, hs, hl, fun p c fd H' s hp hc ncp e1 e2 f0 f1 => ?_⟩
  let Hd : Hp := upd (fun _ => none) c (.lst (ns.map V.int))
  have hdc : Hd c = some (.lst (ns.map V.int)) := upd_same
  have hdn : ∀ b, b ≠ c → Hd b = none := fun b z => upd_ne z
  have sa : Same Hd H' := fun b o e => by
    by_cases z : b = c
    · subst z; rw [hdc] at e; cases e; exact e2
    · rw [hdn b z] at e; cases e
  have sr : SR K (some (p, c)) Hd H' (some (.ref a) :: some (.ref p) :: List.replicate n none) (GL n) := by
    have own : ∀ (i : Nat) (k : Sk), (GL n)[i]? = some k → k.isOwn = false := fun i k h => by
      match i, h with
      | 0, h => cases h; rfl
      | 1, h => cases h; rfl
      | i + 2, h =>
        have h' : (List.replicate n Sk.un)[i]? = some k := h
        rw [List.getElem?_replicate] at h'
        split at h' <;> cases h'
        rfl
    refine ⟨by simp [GL], fun i o k h1 h2 => ?_, fun i j k1 k2 l ne h1 o1 => by rw [own i k1 h1] at o1; cases o1⟩
    match i, h1, h2 with
    | 0, h1, h2 => cases h2; exact True.intro
    | 1, h1, h2 => cases h1; cases h2; exact ⟨p, rfl, rfl⟩
    | i + 2, h1, h2 =>
      have h' : (List.replicate n Sk.un)[i]? = some k := h2
      rw [List.getElem?_replicate] at h'
      split at h' <;> cases h'
      exact True.intro
  have pe : PenO (some (p, c)) 0 Hd H' := ⟨⟨0, 0, 0, fd, e1, by decide, by decide, by decide, by decide, f0, f1⟩, hdn p (fun z => ncp z.symm), ⟨ns, hdc, hl⟩, ht.ext s, fun q hq => hdn _ fun z => by obtain ⟨ps, y, _⟩ := ht.ext s q hq; rw [z, e2] at y; cases y⟩
  have goal := hw p c Hd Hd H' (some (.ref a) :: some (.ref p) :: List.replicate n none) Hd H' 0 ⟨Same.refl _, sa, .refl sa, sr, pe, fun i k l h1 h2 h3 => by
    have z : k.isOwn = false := by
      match i, h1 with
      | 0, h => cases h; rfl
      | 1, h => cases h; rfl
      | i + 2, h =>
        have h' : (List.replicate n Sk.un)[i]? = some k := h
        rw [List.getElem?_replicate] at h'
        split at h' <;> cases h'
        rfl
    rw [z] at h2; cases h2⟩ (by omega) (fun _ _ _ _ _ _ hh _ => hh.elim) { nx := fun _ H' => Q V.non H', rt := Q } ?_ ?_ ?_ ?_
  · exact goal
  · intro Γ' σ' Hd' H2 z _
    have z' : D.non = D.bl true := z
    cases z'
  · intro _ _ _ _ z; exact z.elim
  · intro _ _ _ _ z; exact z.elim
  · intro v d Hd' H2 z _ _ r
    have z' : d = D.bl true := z
    subst z'
    cases r
    exact q H2
end
end DL
set_option maxRecDepth 100000
set_option maxHeartbeats 4000000
/-! DLpenW: the pen draws from any number of things (the divisor may be large). -/
namespace DL
open PySem L2 PyProof.Rows
variable [Tbl]
abbrev tDvW (a b : TE) : TE := tOp (rI CDivW fun i j => V.int (i / j)) a b
abbrev tDrawW (K : PySem.W.Frag) : TS :=
  tSeq (sDPut (tVar 0) (tC (.str "count")) (tOp (rAddU K) (tG "count") (tI 1)))
   (tSeq (tIfS (tAnd (tTest (tOp (rEqD K) (tG "digits") (tI 0))) (tTest (tOp (rI0 fun i j => V.bl (decide (i < j))) (tG "at") (tCB (fun xs H Q => ∃ x n, xs = [x] ∧ LenV K x H n ∧ Q (V.int n) H) (tCons (tG "cells") tNil)))))
      (tSeq (tAsg (tOp (rIx K) (tG "cells") (tG "at")) (gName 2))
       (tSeq (sDPut (tVar 0) (tC (.str "at")) (tOp (rAddU K) (tG "at") (tI 1)))
        (tIfS (tTest (tOp (rI0 fun i j => V.bl (decide (j ≤ i))) (tVar 2) (tPw 10 18)))
          (sDPut (tVar 0) (tC (.str "digits")) (tOp (rI0 fun i j => V.int (i - j)) (tVar 2) (tPw 10 18)))
          (sDPut (tVar 0) (tC (.str "fold")) (tMd (tIntC (tOp (rAddU K) (tOp (rMulU K) (tG "fold") (tI 71473)) (tVar 2))) (tI 2147483587))))))
      tNext)
    (tSeq (tIfS (tTest (tOp (rI0 fun i j => V.bl (decide (j < i))) (tG "digits") (tI 0)))
       (tSeq (tAsg (tMd (tIntC (tG "digits")) (tVar 1)) (gName 3)) (tSeq (sDPut (tVar 0) (tC (.str "digits")) (tDvW (tG "digits") (tVar 1))) (tRet (tVar 3))))
       tNext)
     (tSeq (tAsg (tOp (rAddU K) (tOp (rAddU K) (tG "fold") (tOp (rMulU K) (tG "count") (tI 7907))) (tI 67)) (gName 4))
      (tRet (tMd (tDvW (tIntC (tMd (tOp (rI CPow fun i j => V.int (i ^ j.toNat)) (tVar 4) (tI 17)) (tI 2305843009213693951))) (tI 128)) (tVar 1))))))
section
variable {K : PySem.W.Frag} {σ : L2.St} {H : Hp} {p : Addr} {kvs : List (Key × V)} {k : Str} {v : V} {Q : VK}
theorem drawW_ok {a cc : Addr} {Hd : Hp} {n : Nat} {many : Int} (sa : Same Hd H) (pe : PenAt n Hd H a cc) (hn : n + 1 ≤ LIM) (m0 : 0 < many) (m1 : many.natAbs.log2 < 9000)
    (q : ∀ (v : V) (d : D) (Hd' H' : Hp), Grow (some a) Hd H Hd' H' → PenAt (n + 1) Hd' H' a cc → postDraw [D.int many] d → Rep K Hd' v d → Q v H') :
    tDrawW K { nx := fun _ H' => Q V.non H', rt := Q } [some (.ref a), some (.int many), none, none, none] H := by
  obtain ⟨⟨i, dg, ct, fd, hp, i0, d0, c0, c1, f0, f1⟩, nd, ⟨ns, hc, nl⟩, ht⟩ := pe
  have nca : cc ≠ a := fun z => by subst z; rw [nd] at hc; cases hc
  -- what is wanted of an end
  have fin : ∀ (r : Int) (H' : Hp) (i dg ct fd : Int), (∀ b, b ≠ a → H' b = H b) → H' a = some (.dK (penKvs cc i dg ct fd)) → 0 ≤ i → 0 ≤ dg → 0 ≤ ct → ct ≤ n + 1 → 0 ≤ fd → fd < 2147483587 → 0 ≤ r → r < many → Q (.int r) H' := by
    intro r H' i dg ct fd same hp' a1 a2 a3 a4 a5 a6 a7 a8
    have ne : ∀ b o, Hd b = some o → b ≠ a := fun b o e z => by subst z; rw [nd] at e; cases e
    refine q _ (.int r) Hd H' ⟨Same.refl _, fun b o z _ e => ?_, fun b o e => ?_, fun _ _ z => z, fun b e => ?_, fun z => tabs_same z (pl_some hp rfl) hp' same⟩ ⟨⟨i, dg, ct, fd, hp', a1, a2, a3, by omega, a5, a6⟩, nd, ⟨ns, hc, nl⟩, tabs_same ht.1 (pl_some hp rfl) hp' same, ht.2⟩ ⟨many, r, rfl, rfl, a7, a8⟩ (.int r)
    · rw [same b (fun y => z (by rw [y]))]; exact e
    · rw [same b (ne b o e)]; exact sa _ _ e
    · by_cases z : b = a
      · subst z; rw [hp']; exact fun y => nomatch y
      · rw [same b z]; exact e
  -- the last part, from any state of the pen
  have last : ∀ (σ : L2.St) (H' : Hp) (i dg ct fd : Int), σ[0]? = some (some (.ref a)) → σ[1]? = some (some (.int many)) → σ.length = 5 → (∀ b, b ≠ a → H' b = H b) → H' a = some (.dK (penKvs cc i dg ct fd)) → 0 ≤ i → 0 ≤ dg → 0 ≤ ct → ct ≤ n + 1 → 0 ≤ fd → fd < 2147483587 →
      (tSeq (tIfS (tTest (tOp (rI0 fun i j => V.bl (decide (j < i))) (tG "digits") (tI 0)))
       (tSeq (tAsg (tMd (tIntC (tG "digits")) (tVar 1)) (gName 3)) (tSeq (sDPut (tVar 0) (tC (.str "digits")) (tDvW (tG "digits") (tVar 1))) (tRet (tVar 3))))
       tNext)
     (tSeq (tAsg (tOp (rAddU K) (tOp (rAddU K) (tG "fold") (tOp (rMulU K) (tG "count") (tI 7907))) (tI 67)) (gName 4))
      (tRet (tMd (tDvW (tIntC (tMd (tOp (rI CPow fun i j => V.int (i ^ j.toNat)) (tVar 4) (tI 17)) (tI 2305843009213693951))) (tI 128)) (tVar 1))))) { nx := fun _ H' => Q V.non H', rt := Q } σ H' := by
    intro σ H' i dg ct fd h0 h1 hl same hp' a1 a2 a3 a4 a5 a6
    refine rd_get h0 hp' pen_digits ⟨_, _, rfl, rfl, _, rfl, ite2 (fun hpos => ?_) fun hneg => ?_⟩
    · have hpos' : 0 < dg := of_decide_eq_true hpos
      refine rd_get h0 hp' pen_digits (.inl ⟨_, rfl, _, h1, _, _, rfl, rfl, m0, ?_⟩)
      have s0 : (σ.set 3 (some (V.int (dg % many))))[0]? = some (some (.ref a)) := by rw [List.getElem?_set_ne (by decide)]; exact h0
      have s1 : (σ.set 3 (some (V.int (dg % many))))[1]? = some (some (.int many)) := by rw [List.getElem?_set_ne (by decide)]; exact h1
      have s3 : (σ.set 3 (some (V.int (dg % many))))[3]? = some (some (V.int (dg % many))) := List.getElem?_set_self (by omega)
      refine rd_get s0 hp' pen_digits ⟨_, s1, _, _, rfl, rfl, ⟨m0, m1⟩, _, s0, a, _, rfl, dput_of hp' (show 5 < 100 by decide), _, s3, ?_⟩
      rw [put_digits]
      refine fin (dg % many) _ i (dg / many) ct fd (fun b z => ?_) upd_same a1 (Int.ediv_nonneg a2 (by omega)) a3 a4 a5 a6 (Int.emod_nonneg _ (by omega)) (Int.emod_lt_of_pos _ m0)
      rw [upd_ne z]; exact same b z
    · refine rd_get h0 hp' pen_fold (rd_get h0 hp' pen_count (.inl ⟨_, _, rfl, rfl, .inr (by omega), .inl ⟨_, _, rfl, rfl, .inl ⟨_, _, rfl, rfl, ?_⟩⟩⟩))
      have s1 : (σ.set 4 (some (V.int (fd + ct * 7907 + 67))))[1]? = some (some (.int many)) := by rw [List.getElem?_set_ne (by decide)]; exact h1
      have s4 : (σ.set 4 (some (V.int (fd + ct * 7907 + 67))))[4]? = some (some (V.int (fd + ct * 7907 + 67))) := List.getElem?_set_self (by omega)
      have hL : (n : Int) + 1 ≤ 1000000000000 := by have : n + 1 ≤ 1000000000000 := hn; omega
      refine ⟨_, s4, _, _, rfl, rfl, ⟨by decide, by decide, by omega⟩, _, _, rfl, rfl, (show (0 : Int) < 2305843009213693951 by decide), .inl ⟨_, rfl, _, _, rfl, rfl, ⟨by decide, by decide +kernel⟩, _, s1, _, _, rfl, rfl, m0, ?_⟩⟩
      exact fin _ _ i dg ct fd same hp' a1 a2 a3 a4 a5 a6 (Int.emod_nonneg _ (by omega)) (Int.emod_lt_of_pos _ m0)
  -- count
  have s0 : ([some (.ref a), some (.int many), none, none, none] : L2.St)[0]? = some (some (.ref a)) := rfl
  refine rd_get s0 hp pen_count (.inl ⟨_, _, rfl, rfl, _, s0, a, _, rfl, dput_of hp (show 5 < 100 by decide), ?_⟩)
  rw [put_count]
  have hp1 : upd H a (.dK (penKvs cc i dg (ct + 1) fd)) a = some (.dK (penKvs cc i dg (ct + 1) fd)) := upd_same
  generalize hH1 : upd H a (.dK (penKvs cc i dg (ct + 1) fd)) = H1 at hp1
  have same1 : ∀ b, b ≠ a → H1 b = H b := fun b z => by rw [← hH1]; exact upd_ne z
  have hcc : H1 cc = some (.lst (ns.map V.int)) := by rw [same1 cc nca]; exact sa _ _ hc
  refine rd_get s0 hp1 pen_digits ⟨.int dg, .int 0, .int _, .int _, rfl, rfl, _, rfl, ite2 (fun z => ?_) fun z => ?_⟩
  · have dz : dg = 0 := by
      have z' : (dg == 0) = true := z
      exact eq_of_beq z'
    refine rd_get s0 hp1 pen_at (rd_get s0 hp1 pen_cells ⟨_, _, rfl, .inl ⟨_, SqL.of hcc, rfl⟩, _, _, rfl, rfl, _, rfl, ite2 (fun y => ?_) fun y => ?_⟩)
    · have y' := of_decide_eq_true y
      rw [List.length_map] at y'
      obtain ⟨j, rfl⟩ : ∃ j : Nat, i = (j : Int) := ⟨i.toNat, by omega⟩
      have hj : j < ns.length := by omega
      have hcell : atI (ns.map V.int) (j : Int) = some (V.int ns[j]) := atI_nat (by rw [List.getElem?_map, List.getElem?_eq_getElem hj]; rfl)
      refine rd_get s0 hp1 pen_cells (rd_get s0 hp1 pen_at (.inl ⟨_, _, _, _, rfl, rfl, SqL.of hcc, hcell, ?_⟩))
      have t0 : (([some (.ref a), some (.int many), none, none, none] : L2.St).set 2 (some (V.int ns[j])))[0]? = some (some (.ref a)) := rfl
      have t1 : (([some (.ref a), some (.int many), none, none, none] : L2.St).set 2 (some (V.int ns[j])))[1]? = some (some (.int many)) := rfl
      have t2 : (([some (.ref a), some (.int many), none, none, none] : L2.St).set 2 (some (V.int ns[j])))[2]? = some (some (V.int ns[j])) := rfl
      generalize ns[j] = cell at t0 t1 t2 ⊢
      refine rd_get t0 hp1 pen_at (.inl ⟨_, _, rfl, rfl, _, t0, a, _, rfl, dput_of hp1 (show 5 < 100 by decide), ?_⟩)
      rw [put_at]
      have hp2 : upd H1 a (.dK (penKvs cc ((j : Int) + 1) dg (ct + 1) fd)) a = some (.dK (penKvs cc ((j : Int) + 1) dg (ct + 1) fd)) := upd_same
      generalize hH2 : upd H1 a (.dK (penKvs cc ((j : Int) + 1) dg (ct + 1) fd)) = H2 at hp2
      have same2 : ∀ b, b ≠ a → H2 b = H b := fun b z => by rw [← hH2, upd_ne z]; exact same1 b z
      refine ⟨_, t2, _, _, rfl, rfl, ⟨by decide, by decide, by decide⟩, _, _, rfl, rfl, _, rfl, ite2 (fun x => ?_) fun x => ?_⟩
      · have x' := of_decide_eq_true x
        refine ⟨_, t2, _, _, rfl, rfl, ⟨by decide, by decide, by decide⟩, _, _, rfl, rfl, _, t0, a, _, rfl, dput_of hp2 (show 5 < 100 by decide), ?_⟩
        rw [put_digits]
        exact last _ _ _ _ _ _ t0 t1 rfl (fun b z => by rw [upd_ne z]; exact same2 b z) upd_same (by omega) (by omega) (by omega) (by omega) f0 f1
      · refine rd_get t0 hp2 pen_fold (.inl ⟨_, _, rfl, rfl, .inr (by omega), _, t2, .inl ⟨_, _, rfl, rfl, .inl ⟨_, rfl, _, _, rfl, rfl, (show (0 : Int) < 2147483587 by decide), _, t0, a, _, rfl, dput_of hp2 (show 5 < 100 by decide), ?_⟩⟩⟩)
        rw [put_fold]
        exact last _ _ _ _ _ _ t0 t1 rfl (fun b z => by rw [upd_ne z]; exact same2 b z) upd_same (by omega) d0 (by omega) (by omega) (Int.emod_nonneg _ (by decide)) (Int.emod_lt_of_pos _ (by decide))
    · exact last _ _ _ _ _ _ s0 rfl rfl same1 hp1 i0 d0 (by omega) (by omega) f0 f1
  · exact last _ _ _ _ _ _ s0 rfl rfl same1 hp1 i0 d0 (by omega) (by omega) f0 f1

end
end DL
set_option maxRecDepth 100000
set_option maxHeartbeats 4000000
/-! DLx: forms for the tactics: tests of known truth, isinstance by a table, good values. -/
namespace DL
open PySem L2 PyProof.Rows
variable [Tbl]
section
variable {c : Ct} {Γ : List Sk} {m m1 m2 m3 : Nat} {te ta tb : TE} {t u : TT}
theorem eb_orT (h : EvB c t Γ m (· = true)) : EvB c (tOr t u) Γ m (· = true) := (eb_or (m2 := 0) (β := (· = true)) h (fun e => absurd e (by simp)) fun _ => rfl)
theorem eb_orFT (h : EvB c t Γ m1 (· = false)) (h2 : EvB c u Γ m2 (· = true)) : EvB c (tOr t u) Γ (m1 + m2) (· = true) := eb_or h (fun _ => h2) fun e => absurd e (by simp)
theorem eb_orFF (h : EvB c t Γ m1 (· = false)) (h2 : EvB c u Γ m2 (· = false)) : EvB c (tOr t u) Γ (m1 + m2) (· = false) := eb_or h (fun _ => h2) fun e => absurd e (by simp)
theorem eb_andF (h : EvB c t Γ m (· = false)) : EvB c (tAnd t u) Γ m (· = false) := (eb_and (m2 := 0) (β := (· = false)) h (fun e => absurd e (by simp)) fun _ => rfl)
theorem eb_andTF (h : EvB c t Γ m1 (· = true)) (h2 : EvB c u Γ m2 (· = false)) : EvB c (tAnd t u) Γ (m1 + m2) (· = false) := eb_and h (fun _ => h2) fun e => absurd e (by simp)
theorem eb_andTT (h : EvB c t Γ m1 (· = true)) (h2 : EvB c u Γ m2 (· = true)) : EvB c (tAnd t u) Γ (m1 + m2) (· = true) := eb_and h (fun _ => h2) fun e => absurd e (by simp)
theorem eb_notT (h : EvB c t Γ m (· = true)) : EvB c (tNot t) Γ m (· = false) := (eb_not_ h)
theorem eb_notF (h : EvB c t Γ m (· = false)) : EvB c (tNot t) Γ m (· = true) := (eb_not_ h)
/-- a < b < c of whole numbers -/
theorem ev_chainI {f g : Int → Int → Bool} {tc : TE} {i j k : Int} (ha : Ev c ta Γ m1 (· = .int i)) (hb : Ev c tb Γ m2 (· = .int j)) (hc : Ev c tc Γ m3 (· = .int k)) :
    Ev c (tChain (rI0 fun i j => V.bl (f i j)) (rI0 fun i j => V.bl (g i j)) ta tb tc) Γ (m1 + m2 + m3) (· = .bl (f i j && g j k)) := fun σ Hd H n s sa pe l x Q q =>
  ha σ Hd H n s sa pe (by omega) x _ fun v d Hd1 H1 g1 pe1 e r1 => hb σ Hd1 H1 _ (s.grow g1) g1.s pe1 (by omega) (x.grow g1) _ fun v2 d2 Hd2 H2 g2 pe2 e2 r2 => by
    subst e; subst e2
    cases r1; cases r2
    refine ⟨_, _, rfl, rfl, _, rfl, ?_⟩
    cases hf : f i j with
    | true =>
      refine hc σ Hd2 H2 _ (s.grow (g1.trans g2)) g2.s pe2 (by omega) (x.grow (g1.trans g2)) _ fun v3 d3 Hd3 H3 g3 pe3 e3 r3 => ?_
      subst e3; cases r3
      exact ⟨_, _, rfl, rfl, q _ _ Hd3 H3 ((g1.trans g2).trans g3) (PenO.more pe3 (by omega)) (by rw [hf]; rfl) (.bl _)⟩
    | false => exact q _ _ Hd2 H2 (g1.trans g2) (PenO.more pe2 (by omega)) (by rw [hf]; rfl) (.bl _)
/-! isinstance -/
def isiB (d : D) (T : String) : Bool := d.ty == T || (d.ty == "bool" && T == "int")
def isiTys : List String := ["str", "int", "bool", "tuple", "list", "dict"]
theorem kit_tab : ∀ t ∈ ["NoneType", "bool", "int", "str", "list", "tuple", "dict"], ∀ T ∈ isiTys, kitB t T = some (t == T || (t == "bool" && T == "int")) := by decide +kernel
theorem kit_isi {d : D} {T : String} (hb : d.builtin = true) (hT : T ∈ isiTys) : kitB d.ty T = some (isiB d T) := by
  refine kit_tab d.ty ?_ T hT
  cases d with
  | obj _ _ _ => cases hb
  | exc => cases hb
  | ptr => cases hb
  | err => cases hb
  | dcf => cases hb
  | dtf => cases hb
  | _ => simp [D.ty]
theorem ev_isi_ {T : String} {d : D} (h : Ev c te Γ m (· = d)) (hb : d.builtin = true) (hT : T ∈ isiTys := by decide) : Ev c (tCB (rIsi c.K) (tCons te (tCons (tC (.ty T)) tNil))) Γ m (· = .bl (isiB d T)) := ev_isi h hb (kit_isi hb hT)
theorem kitL_isi {d : D} : ∀ {Ts : List String}, d.builtin = true → (∀ T ∈ Ts, T ∈ isiTys) → kitL d.ty Ts = some (Ts.any (isiB d))
  | [], _, _ => rfl
  | T :: Ts, hb, h => by
    unfold kitL
    rw [kit_isi hb (h T List.mem_cons_self), Option.bind_some, List.any_cons]
    cases isiB d T with
    | true => rfl
    | false => exact kitL_isi hb fun U hU => h U (List.mem_cons_of_mem _ hU)
theorem ev_isi2 {T1 T2 : String} {d : D} (h : Ev c te Γ m (· = d)) (hb : d.builtin = true) (h1 : T1 ∈ isiTys := by decide) (h2 : T2 ∈ isiTys := by decide) :
    Ev c (tCB (rIsiT c.K) (tCons te (tCons (tTup (tCons (tC (.ty T1)) (tCons (tC (.ty T2)) tNil))) tNil))) Γ m (· = .bl (isiB d T1 || isiB d T2)) := by
  have q := ev_isiT (c := c) [T1, T2] h hb (kitL_isi hb (by intro T hT; simp only [List.mem_cons, List.not_mem_nil, or_false] at hT; rcases hT with rfl | rfl <;> assumption)) (show 2 ≤ 1000 by decide)
  refine Ev.to q ?_
  simp
/-! good values -/
abbrev GV (d : D) : Prop := GD 64 10000000 d
theorem GV.bi {d : D} (h : GV d) : d.builtin = true := by cases d <;> first | rfl | cases h.pl
theorem GV.len {z : Str} (h : GV (.str z)) : z.length ≤ 1000000 := by have := h.strLen; omega
theorem GV.it {ds : List D} (h : GV (.tup ds)) : ∀ d ∈ ds, GV d := fun d hd => (h.tups.mem d hd).mono (by decide) (Nat.le_refl _)
theorem GV.li {ds : List D} (h : GV (.lst ds)) : ∀ d ∈ ds, GV d := fun d hd => (h.lsts.mem d hd).mono (by decide) (Nat.le_refl _)
theorem GV.its {d : D} {ds : List D} (h : GV d) (e : d.its = some ds) : ∀ x ∈ ds, GV x := by
  cases d with
  | lst es => cases e; exact h.li
  | tup es => cases e; exact h.it
  | _ => cases e
theorem ws_len : ∀ ds : List D, 2 * ds.length ≤ D.ws ds
  | [] => Nat.le_refl _
  | d :: ds => by have := ws_len ds; show 2 * (ds.length + 1) ≤ D.w d + 2 + D.ws ds; omega
theorem GV.seq {d : D} (h : GV d) (e : d.its.isSome = true ∨ (∃ z, d = .str z)) : d.seq = true := by
  rcases e with e | ⟨z, rfl⟩
  · cases d <;> first | rfl | cases e
  · exact decide_eq_true h.len
theorem GV.cut {d : D} (lo hi : Option Int) (h : GV d) (e : d.its.isSome = true) : GV (d.cut lo hi) := by
  cases d with
  | tup ds => exact ⟨(h.tups.cut lo hi).pl, (h.tups.cut lo hi).lay, (h.tups.cut lo hi).sh, by have := (h.tups.cut lo hi).dep; show _ + 1 ≤ 64; omega, by
      have e1 : D.ws (cutD ds lo hi) ≤ D.ws ds := ((GDs.cut (k := 64) (n := D.ws ds) lo hi ⟨h.tups.pl, h.tups.lay, h.tups.sh, by have := h.tups.dep; omega, Nat.le_refl _⟩)).w
      have e2 : D.ws ds + 3 ≤ 10000000 := h.w
      show D.ws (cutD ds lo hi) + 3 ≤ 10000000; omega⟩
  | lst ds => exact ⟨(h.lsts.cut lo hi).pl, (h.lsts.cut lo hi).lay, (h.lsts.cut lo hi).sh, by have := (h.lsts.cut lo hi).dep; show _ + 1 ≤ 64; omega, by
      have e1 : D.ws (cutD ds lo hi) ≤ D.ws ds := ((GDs.cut (k := 64) (n := D.ws ds) lo hi ⟨h.lsts.pl, h.lsts.lay, h.lsts.sh, by have := h.lsts.dep; omega, Nat.le_refl _⟩)).w
      have e2 : D.ws ds + 3 ≤ 10000000 := h.w
      show D.ws (cutD ds lo hi) + 3 ≤ 10000000; omega⟩
  | _ => cases e
theorem on_len_ {d : D} {k : Nat} (h : d.len = some k) : OpN c (fun xs H Q => ∃ x n, xs = [x] ∧ LenV c.K x H n ∧ Q (.int n) H) [d] (· = .int k) := on_len h
end
end DL
set_option maxRecDepth 100000
set_option maxHeartbeats 4000000
/-! DLk: the rules with the written part as a letter (so that they stand within comprehensions too). -/
namespace DL
open PySem L2 PyProof.Rows
variable [Tbl]
section
variable {X : Cx} {K : PySem.W.Frag}
theorem op_addUk (h : X.K = K := by rfl) : OpR X (binaryOp .Add) (rAddU K) := h ▸ op_addU
theorem op_mulUk (h : X.K = K := by rfl) : OpR X (binaryOp .Mult) (rMulU K) := h ▸ op_mulU
theorem op_inUk (h : X.K = K := by rfl) : OpR X (compareOp .In) (rInU K) := h ▸ op_inU
theorem op_ninUk (h : X.K = K := by rfl) : OpR X (compareOp .NotIn) (rNinU K) := h ▸ op_ninU
theorem op_eqDk (hu : X.A.units + 64 < cLine) (h : X.K = K := by rfl) : OpR X (compareOp .Eq) (rEqD K) := h ▸ op_eqD hu
theorem op_neDk (hu : X.A.units + 64 < cLine) (h : X.K = K := by rfl) : OpR X (compareOp .NotEq) (rNeD K) := h ▸ op_neD hu
theorem ix_seqk (h : X.K = K := by rfl) : IxR X (rIx K) := h ▸ ix_seq
theorem sl_Uk (h : X.K = K := by rfl) : SlR X (rSlU K) := h ▸ sl_U
theorem call_lenk (h : X.K = K := by rfl) : CallR X (.builtin "len") (fun xs H Q => ∃ x n, xs = [x] ∧ LenV K x H n ∧ Q (.int n) H) := h ▸ call_len
theorem call_isik (h : X.K = K := by rfl) : CallR X (.builtin "isinstance") (rIsi K) := h ▸ call_isi
theorem call_isiTk (h : X.K = K := by rfl) : CallR X (.builtin "isinstance") (rIsiT K) := h ▸ call_isiT
theorem cr_allk (hc : X.calm = true) (h : X.K = K := by rfl) : CallR X (.builtin "all") (rAll K) := h ▸ cr_all hc
theorem cr_anyk (hc : X.calm = true) (h : X.K = K := by rfl) : CallR X (.builtin "any") (rAny K) := h ▸ cr_any hc
theorem cr_sumk (hc : X.calm = true) (h : X.K = K := by rfl) : CallR X (.builtin "sum") (rSum K) := h ▸ cr_sum hc
theorem cr_sortedSk (h : X.K = K := by rfl) : CallR X (.builtin "sorted") (rSortedS K) := h ▸ cr_sortedS
theorem call_reprk (ng : NoG X.A) (hu : X.A.units + 66 < cLine) (h : X.K = K := by rfl) : CallR X (.builtin "repr") (rReprD K) := h ▸ call_reprD ng hu
theorem call_list_ofk (h : X.K = K := by rfl) : CallR X (.type "list") (fun xs H Q => ∃ p ys, xs = [.ref p] ∧ (SqL K H p ys ∨ SqT K H p ys) ∧ ∀ l, H l = none → Q (.ref l) (upd H l (.lst ys))) := h ▸ call_list_of
theorem call_tuple_ofk (h : X.K = K := by rfl) : CallR X (.type "tuple") (fun xs H Q => ∃ a ys, xs = [.ref a] ∧ ((SqL K H a ys ∧ ∀ l, H l = none → Q (.ref l) (upd H l (.tup ys))) ∨ (SqT K H a ys ∧ Q (.ref a) H))) := h ▸ call_tuple_of
theorem pg_tupk {pos : Pos} {es : List Expr} {k n : Nat} {t : TGs} (hc : X.calm = true) (hp : PGs X es t) (h : X.K = K := by rfl) (hn : (assignEach es X.env).length = n := by rfl) (hst : (assignEach es X.env).findIdx? (·.1) = none := by rfl) : PG X (.Tuple es k pos) (gTup K n t) := h ▸ pg_tup hc hp hn hst
theorem pg_seqk {pos : Pos} {es : List Expr} {k n : Nat} {t : TGs} (hc : X.calm = true) (hp : PGs X es t) (h : X.K = K := by rfl) (hn : (assignEach es X.env).length = n := by rfl) (hst : (assignEach es X.env).findIdx? (·.1) = none := by rfl) : PG X (.Tuple es k pos) (gSeq K n t) := h ▸ pg_seq hc hp hn hst
theorem pi_seqk {tg l : Expr} {tl : TE} (hl : PE X l tl) (h : X.K = K := by rfl) : PI X tg l (iSeq K tl) := h ▸ pi_seq hl
end
section
variable {c : Ct} {Γ : List Sk} {m : Nat} {ta : TA}
/-- zip of two lists, of two tuples -/
theorem itd_zipT {K : PySem.W.Frag} {Hd : Hp} {a b : Addr} {xs ys : List V} {ds es : List D} (h : SqT K Hd a xs) (r : Reps K Hd xs ds) (h2 : SqT K Hd b ys) (r2 : Reps K Hd ys es) : ItD K Hd (RZ.ItzT K a b) (zipD ds es) := fun Hd' H' e1 e2 => by
  have h' : SqT K H' a xs := same_sqt (e1.trans e2) h
  have h2' : SqT K H' b ys := same_sqt (e1.trans e2) h2
  have hl := r.length
  have hl2 := r2.length
  have hz : (zipD ds es).length = min ds.length es.length := by simp [zipD]
  refine ⟨fun i hi => ⟨xs, ys, xs[i]'(by omega), ys[i]'(by omega), h', h2', List.getElem?_eq_getElem _, List.getElem?_eq_getElem _⟩, fun i hi => ⟨xs, ys, h', h2', by omega⟩, fun i v H'' y d hd => ?_⟩
  obtain ⟨T, x, x2, e, hT, eH, y, y2⟩ := y
  subst e; subst eH
  obtain ⟨u1, u2, q1, p1, q2⟩ := zipD_get hd
  subst q2
  obtain ⟨w, q3, q4⟩ := (r.mono e1).get q1
  obtain ⟨w2, p3, p4⟩ := (r2.mono e1).get p1
  have q := y xs h'
  have q' := y2 ys h2'
  rw [q] at q3; cases q3
  rw [q'] at p3; cases p3
  have g := Grow.new (p := none) (o := HO.tup [x, x2]) e2 hT
  exact ⟨_, g, .tup (SqT.of upd_same) (.cons (q4.mono g.d) (.cons (p4.mono g.d) .nil))⟩
theorem ei_zipL_ {ds es : List D} (h : EvA c ta Γ m (· = [.lst ds, .lst es])) : EvI c (RZ.iZipA c.K ta) Γ m (· = zipD ds es) := fun σ Hd H n s sa pe l x R q =>
  h σ Hd H n s sa pe l x _ fun vs as Hd1 H1 g1 pe1 e r1 => by
    subst e
    rcases r1 with _ | ⟨a, _ | ⟨a', _ | _⟩⟩
    cases a with | lst h1 r => cases a' with | lst h2 r2 => exact ⟨_, _, _, _, rfl, .inl ⟨SqL.of (g1.s _ _ h1), SqL.of (g1.s _ _ h2), q _ _ Hd1 H1 g1 pe1 rfl (itd_zip h1 r h2 r2)⟩⟩
theorem ei_zipT_ {ds es : List D} (h : EvA c ta Γ m (· = [.tup ds, .tup es])) : EvI c (RZ.iZipA c.K ta) Γ m (· = zipD ds es) := fun σ Hd H n s sa pe l x R q =>
  h σ Hd H n s sa pe l x _ fun vs as Hd1 H1 g1 pe1 e r1 => by
    subst e
    rcases r1 with _ | ⟨a, _ | ⟨a', _ | _⟩⟩
    cases a with | tup h1 r => cases a' with | tup h2 r2 => exact ⟨_, _, _, _, rfl, .inr ⟨same_sqt g1.s h1, same_sqt g1.s h2, q _ _ Hd1 H1 g1 pe1 rfl (itd_zipT h1 r h2 r2)⟩⟩
end
end DL
set_option maxRecDepth 100000
set_option maxHeartbeats 4000000
/-! DLw: terms with what is to be shown of them (weakest promises): WE, WA, WT, WO, WI, WG, WM, WS. -/
namespace DL
open PySem L2 PyProof.Rows
variable [Tbl]
abbrev Xq := Addr → List (Str × D) → Prop
abbrev noX : Xq := fun _ _ => False
structure WE (K : PySem.W.Frag) (E : XK) where
  t : TE
  m : Nat
  w : Xq → List Sk → (D → Prop) → Prop
  ok : ∀ {p : Pn} {χ : Xq} {Γ : List Sk} {φ : D → Prop}, w χ Γ φ → Ev ⟨K, p, E, χ⟩ t Γ m φ
structure WA (K : PySem.W.Frag) (E : XK) where
  t : TA
  m : Nat
  w : Xq → List Sk → (List D → Prop) → Prop
  ok : ∀ {p : Pn} {χ : Xq} {Γ : List Sk} {φ : List D → Prop}, w χ Γ φ → EvA ⟨K, p, E, χ⟩ t Γ m φ
structure WT (K : PySem.W.Frag) (E : XK) where
  t : TT
  m : Nat
  w : Xq → List Sk → (Bool → Prop) → Prop
  ok : ∀ {p : Pn} {χ : Xq} {Γ : List Sk} {φ : Bool → Prop}, w χ Γ φ → EvB ⟨K, p, E, χ⟩ t Γ m φ
structure WO (K : PySem.W.Frag) (E : XK) where
  t : TO
  m : Nat
  w : Xq → List Sk → (Option Int → Prop) → Prop
  ok : ∀ {p : Pn} {χ : Xq} {Γ : List Sk} {φ : Option Int → Prop}, w χ Γ φ → EvO ⟨K, p, E, χ⟩ t Γ m φ
structure WI (K : PySem.W.Frag) (E : XK) where
  t : TI
  m : Nat
  w : Xq → List Sk → (List D → Prop) → Prop
  ok : ∀ {p : Pn} {χ : Xq} {Γ : List Sk} {φ : List D → Prop}, w χ Γ φ → EvI ⟨K, p, E, χ⟩ t Γ m φ
structure WG (K : PySem.W.Frag) where
  t : TG
  is : List Nat
  ps : D → Option (List (Nat × D))
  sub : ∀ {d l}, ps d = some l → ∀ j ∈ l.map (·.1), j ∈ is
  ok : ∀ {p : Pn} {E : XK} {χ : Xq} {d l}, ps d = some l → TgD ⟨K, p, E, χ⟩ t d l
structure WGs (K : PySem.W.Frag) where
  t : TGs
  is : List Nat
  n : Nat
  ps : List D → Option (List (Nat × D))
  sub : ∀ {d l}, ps d = some l → ∀ j ∈ l.map (·.1), j ∈ is
  len : ∀ {d l}, ps d = some l → d.length = n
  ok : ∀ {p : Pn} {E : XK} {χ : Xq} {d l}, ps d = some l → TgDs ⟨K, p, E, χ⟩ t d l
structure WM (K : PySem.W.Frag) (E : XK) where
  t : TE
  m : Nat
  w : Xq → List Sk → (D → List Sk → Prop) → Prop
  ok : ∀ {p : Pn} {χ : Xq} {Γ : List Sk} {φ : D → List Sk → Prop}, w χ Γ φ → EvM ⟨K, p, E, χ⟩ t Γ m φ
structure WS (K : PySem.W.Frag) (E : XK) where
  t : TS
  m : Nat
  w : Xq → List Sk → Wh → Prop
  ok : ∀ {p : Pn} {χ : Xq} {Γ : List Sk} {W : Wh}, w χ Γ W → Wp ⟨K, p, E, χ⟩ t Γ m W
structure O2 (K : PySem.W.Frag) where
  r : R2
  w : D → D → (D → Prop) → Prop
  ok : ∀ {p : Pn} {E : XK} {χ : Xq} {a b : D} {φ : D → Prop}, w a b φ → Op2 ⟨K, p, E, χ⟩ r a b φ
structure ON (K : PySem.W.Frag) where
  r : List V → Hp → VK → Prop
  w : List D → (D → Prop) → Prop
  ok : ∀ {p : Pn} {E : XK} {χ : Xq} {as : List D} {φ : D → Prop}, w as φ → OpN ⟨K, p, E, χ⟩ r as φ

theorem Op2.to {c : Ct} {r : R2} {a b d : D} {φ : D → Prop} (h : Op2 c r a b (· = d)) (f : φ d) : Op2 c r a b φ := fun x y Hd H s ra rb Q q => h x y Hd H s ra rb Q fun v d' Hd' H' g e r' => q v d' Hd' H' g (by rw [e]; exact f) r'
theorem OpN.to {c : Ct} {r : List V → Hp → VK → Prop} {as : List D} {d : D} {φ : D → Prop} (h : OpN c r as (· = d)) (f : φ d) : OpN c r as φ := fun x Hd H s ra Q q => h x Hd H s ra Q fun v d' Hd' H' g e r' => q v d' Hd' H' g (by rw [e]; exact f) r'
theorem Ev.fin {c : Ct} {te : TE} {Γ : List Sk} {m : Nat} {d : D} {φ : D → Prop} (h : Ev c te Γ m (· = d)) (f : φ d) : Ev c te Γ m φ := h.imp fun _ e => by rw [e]; exact f
section
variable {K : PySem.W.Frag} {E : XK}
/-! ### operations by values -/
def O2.int (g : Int → Int → Int) : O2 K := ⟨rI0 fun i j => .int (g i j), fun a b φ => match a, b with | .int i, .int j => φ (.int (g i j)) | _, _ => False, fun {p E χ a b φ} h => by
  split at h
  · exact o2_I.to h
  · exact h.elim⟩
def O2.cmp (g : Int → Int → Bool) : O2 K := ⟨rI0 fun i j => .bl (g i j), fun a b φ => match a, b with | .int i, .int j => φ (.bl (g i j)) | _, _ => False, fun {p E χ a b φ} h => by
  split at h
  · exact o2_B.to h
  · exact h.elim⟩
def O2.intC (C : Int → Int → Prop) (g : Int → Int → Int) : O2 K := ⟨rI C fun i j => .int (g i j), fun a b φ => match a, b with | .int i, .int j => C i j ∧ φ (.int (g i j)) | _, _ => False, fun {p E χ a b φ} h => by
  split at h
  · exact (o2_IC h.1).to h.2
  · exact h.elim⟩
def O2.add : O2 K := ⟨rAddU K, fun a b φ => match a, b with
  | .int i, .int j => φ (.int (i + j))
  | .str i, .str j => i.length + j.length ≤ 1000000 ∧ φ (.str (i ++ j))
  | .tup i, .tup j => i.length + j.length ≤ 1000000 ∧ φ (.tup (i ++ j))
  | .lst i, .lst j => i.length + j.length ≤ 1000000 ∧ φ (.lst (i ++ j))
  | _, _ => False, fun {p E χ a b φ} h => by
  split at h
  · exact o2_addI.to h
  · exact (o2_addS h.1).to h.2
  · exact (o2_addT h.1).to h.2
  · exact (o2_addL h.1).to h.2
  · exact h.elim⟩
def O2.mul : O2 K := ⟨rMulU K, fun a b φ => match a, b with
  | .int i, .int j => CMul i j ∧ φ (.int (i * j))
  | .str z, .int n => (0 ≤ n ∧ n ≤ 1000 ∧ z.length ≤ 1000) ∧ φ (.str (Txt.mul z n))
  | .lst z, .int n => (0 ≤ n ∧ n ≤ 1000 ∧ z.length ≤ 1000) ∧ φ (.lst (List.replicate n.toNat z).flatten)
  | _, _ => False, fun {p E χ a b φ} h => by
  split at h
  · exact (o2_mulI h.1).to h.2
  · exact (o2_mulS h.1).to h.2
  · exact (o2_mulL h.1).to h.2
  · exact h.elim⟩
def O2.eq : O2 K := ⟨rEqD K, fun a b φ => a.ok = true ∧ b.ok = true ∧ φ (.bl (a.eqv b)), fun {p E χ a b φ} h => (o2_eq h.1 h.2.1).to h.2.2⟩
def O2.ne : O2 K := ⟨rNeD K, fun a b φ => a.ok = true ∧ b.ok = true ∧ φ (.bl (!a.eqv b)), fun {p E χ a b φ} h => (o2_ne h.1 h.2.1).to h.2.2⟩
def O2.isU : O2 K := ⟨rIsU, fun a b φ => match b with | .non => φ (.bl a.isNon) | .bl k => φ (.bl (a.isBl k)) | _ => False, fun {p E χ a b φ} h => by
  split at h
  · exact o2_isN.to h
  · exact o2_isB.to h
  · exact h.elim⟩
def O2.notU : O2 K := ⟨fun x y H Q => y = .non ∧ Q (.bl (!decide (x = .non))) H, fun a b φ => match b with | .non => φ (.bl (!a.isNon)) | _ => False, fun {p E χ a b φ} h => by
  split at h
  · exact o2_notN.to h
  · exact h.elim⟩
/-- the sign of a text of one sign -/
def D.sign : D → Option Nat
  | .str z => match z.cps.toList with | [k] => some k | _ => none
  | _ => none
theorem D.sign_of {d : D} {k : Nat} (h : d.sign = some k) : d = .str ⟨#[k]⟩ := by
  cases d with
  | str z =>
    obtain ⟨y⟩ := z
    unfold D.sign at h
    have h' : (match y.toList with | [k] => some k | _ => none) = some k := h
    split at h'
    · rename_i k' e
      cases h'
      have : y = #[k] := by rw [← Array.toList_inj]; exact e
      rw [this]
    · cases h'
  | _ => cases h
@[simp] theorem D.sign_one (k : Nat) : (D.str ⟨#[k]⟩).sign = some k := rfl
def O2.inn : O2 K := ⟨rInU K, fun a b φ => match b with
  | .tup ds => a.flat = true ∧ ds.all D.flat = true ∧ φ (.bl (inD a ds))
  | .lst ds => a.flat = true ∧ ds.all D.flat = true ∧ φ (.bl (inD a ds))
  | .str z => ∃ k, a.sign = some k ∧ φ (.bl (decide (k ∈ z.cps.toList)))
  | _ => False, fun {p E χ a b φ} h => by
  split at h
  · exact (o2_inT h.1 h.2.1).to h.2.2
  · exact (o2_inL h.1 h.2.1).to h.2.2
  · obtain ⟨k, e, h⟩ := h
    rw [D.sign_of e]; exact o2_inS.to h
  · exact h.elim⟩
def O2.nin : O2 K := ⟨rNinU K, fun a b φ => match b with
  | .tup ds => a.flat = true ∧ ds.all D.flat = true ∧ φ (.bl (!inD a ds))
  | .lst ds => a.flat = true ∧ ds.all D.flat = true ∧ φ (.bl (!inD a ds))
  | .str z => ∃ k, a.sign = some k ∧ φ (.bl (!decide (k ∈ z.cps.toList)))
  | _ => False, fun {p E χ a b φ} h => by
  split at h
  · exact (o2_ninT h.1 h.2.1).to h.2.2
  · exact (o2_ninL h.1 h.2.1).to h.2.2
  · obtain ⟨k, e, h⟩ := h
    rw [D.sign_of e]; exact o2_ninS.to h
  · exact h.elim⟩
def O2.ix : O2 K := ⟨rIx K, fun a b φ => match a, b with
  | .lst ds, .int i => ∃ d, atI ds i = some d ∧ φ d
  | .tup ds, .int i => ∃ d, atI ds i = some d ∧ φ d
  | .str z, .int i => ∃ k, atI z.cps.toList i = some k ∧ z.length ≤ 1000000 ∧ φ (.str ⟨#[k]⟩)
  | _, _ => False, fun {p E χ a b φ} h => by
  split at h
  · obtain ⟨d, e, h⟩ := h; exact (o2_ixL e).to h
  · obtain ⟨d, e, h⟩ := h; exact (o2_ixT e).to h
  · obtain ⟨k, e, e2, h⟩ := h; exact (o2_ixS e e2).to h
  · exact h.elim⟩
/-! ### built-ins by values -/
def ON.len : ON K := ⟨fun xs H Q => ∃ x n, xs = [x] ∧ LenV K x H n ∧ Q (.int n) H, fun as φ => match as with | [d] => ∃ k : Nat, d.len = some k ∧ φ (.int (k : Int)) | _ => False, fun {p E χ as φ} h => by
  split at h
  · obtain ⟨k, e, h⟩ := h; exact (on_len e).to h
  · exact h.elim⟩
def ON.list : ON K := ⟨fun xs H Q => ∃ p ys, xs = [.ref p] ∧ (SqL K H p ys ∨ SqT K H p ys) ∧ ∀ l, H l = none → Q (.ref l) (upd H l (.lst ys)), fun as φ => match as with | [d] => ∃ ds, d.its = some ds ∧ φ (.lst ds) | _ => False, fun {p E χ as φ} h => by
  split at h
  · obtain ⟨k, e, h⟩ := h; exact (on_list e).to h
  · exact h.elim⟩
def ON.tuple : ON K := ⟨fun xs H Q => ∃ a ys, xs = [.ref a] ∧ ((SqL K H a ys ∧ ∀ l, H l = none → Q (.ref l) (upd H l (.tup ys))) ∨ (SqT K H a ys ∧ Q (.ref a) H)), fun as φ => match as with | [d] => ∃ ds, d.its = some ds ∧ φ (.tup ds) | _ => False, fun {p E χ as φ} h => by
  split at h
  · obtain ⟨k, e, h⟩ := h; exact (on_tuple e).to h
  · exact h.elim⟩
def D.isB : D → Bool
  | .bl _ => true | _ => false
def D.tt : D → Bool
  | .bl b => b | _ => false
def D.isI : D → Bool
  | .int _ => true | _ => false
def D.toI : D → Int
  | .int b => b | _ => 0
def D.isS : D → Bool
  | .str _ => true | _ => false
def D.toS : D → Str
  | .str b => b | _ => ""
theorem isB_map : ∀ {ds : List D}, (ds.all D.isB = true) → ds = (ds.map D.tt).map D.bl
  | [], _ => rfl
  | d :: ds, h => by
    simp only [List.all_cons, Bool.and_eq_true] at h
    cases d with
    | bl b => simp only [List.map_cons, D.tt]; rw [← isB_map h.2]
    | _ => cases h.1
theorem isI_map : ∀ {ds : List D}, (ds.all D.isI = true) → ds = (ds.map D.toI).map D.int
  | [], _ => rfl
  | d :: ds, h => by
    simp only [List.all_cons, Bool.and_eq_true] at h
    cases d with
    | int b => simp only [List.map_cons, D.toI]; rw [← isI_map h.2]
    | _ => cases h.1
theorem isS_map : ∀ {ds : List D}, (ds.all D.isS = true) → ds = (ds.map D.toS).map D.str
  | [], _ => rfl
  | d :: ds, h => by
    simp only [List.all_cons, Bool.and_eq_true] at h
    cases d with
    | str b => simp only [List.map_cons, D.toS]; rw [← isS_map h.2]
    | _ => cases h.1
def ON.all : ON K := ⟨rAll K, fun as φ => match as with | [.lst ds] => ds.all D.isB = true ∧ φ (.bl (ds.all D.tt)) | _ => False, fun {p E χ as φ} h => by
  split at h
  · rename_i ds
    have e := on_all (c := ⟨K, p, E, χ⟩) (bs := ds.map D.tt)
    rw [← isB_map h.1] at e
    refine e.to ?_
    rw [List.all_map]; exact h.2
  · exact h.elim⟩
def ON.any : ON K := ⟨rAny K, fun as φ => match as with | [.lst ds] => ds.all D.isB = true ∧ φ (.bl (ds.any D.tt)) | _ => False, fun {p E χ as φ} h => by
  split at h
  · rename_i ds
    have e := on_any (c := ⟨K, p, E, χ⟩) (bs := ds.map D.tt)
    rw [← isB_map h.1] at e
    refine e.to ?_
    rw [List.any_map]; exact h.2
  · exact h.elim⟩
def ON.sum : ON K := ⟨rSum K, fun as φ => match as with | [.lst ds] => ds.all D.isI = true ∧ φ (.int (ds.map D.toI).sum) | _ => False, fun {p E χ as φ} h => by
  split at h
  · rename_i ds
    have e := on_sum (c := ⟨K, p, E, χ⟩) (ns := ds.map D.toI)
    rw [← isI_map h.1] at e
    exact e.to h.2
  · exact h.elim⟩
def ON.sortedS : ON K := ⟨rSortedS K, fun as φ => match as with | [.lst ds] => ds.all D.isS = true ∧ ds.length < 64 ∧ ∀ ys : List Str, ys.Perm (ds.map D.toS) → PyProof.Rows.sortedS ys = true → φ (.lst (ys.map D.str)) | _ => False, fun {p E χ as φ} h => by
  split at h
  · rename_i ds
    have e := on_sortedS (c := ⟨K, p, E, χ⟩) (ss := ds.map D.toS) (by rw [List.length_map]; exact h.2.1)
    rw [← isS_map h.1] at e
    exact fun x Hd H s ra Q q => e x Hd H s ra Q fun v d' Hd' H' g ⟨ys, e1, e2, e3⟩ r' => q v d' Hd' H' g (by rw [e3]; exact h.2.2 ys e1 e2) r'
  · exact h.elim⟩
def ON.min2 : ON K := ⟨fun xs H Q => ∃ i j, xs = [.int i, .int j] ∧ Q (.int (if j < i then j else i)) H, fun as φ => match as with | [.int i, .int j] => φ (.int (if j < i then j else i)) | _ => False, fun {p E χ as φ} h => by
  split at h
  · exact on_min2.to h
  · exact h.elim⟩
def ON.max2 : ON K := ⟨fun xs H Q => ∃ i j, xs = [.int i, .int j] ∧ Q (.int (if j > i then j else i)) H, fun as φ => match as with | [.int i, .int j] => φ (.int (if j > i then j else i)) | _ => False, fun {p E χ as φ} h => by
  split at h
  · exact on_max2.to h
  · exact h.elim⟩
def ON.int1 : ON K := ⟨fun xs H Q => (∃ i, xs = [.int i] ∧ Q (.int i) H) ∨ ∃ k, xs = [.bl k] ∧ Q (.int (if k then 1 else 0)) H, fun as φ => match as with | [.int i] => φ (.int i) | _ => False, fun {p E χ as φ} h => by
  split at h
  · exact on_int.to h
  · exact h.elim⟩
def ON.strI : ON K := ⟨fun xs H Q => ∃ i, xs = [.int i] ∧ i.natAbs.log2 < 1920 ∧ Q (.str (toString i)) H, fun as φ => match as with | [.int i] => i.natAbs.log2 < 1920 ∧ φ (.str (toString i)) | _ => False, fun {p E χ as φ} h => by
  split at h
  · exact (on_strI h.1).to h.2
  · exact h.elim⟩
def ON.repr : ON K := ⟨rReprD K, fun as φ => match as with | [d] => GD 64 16000000 d ∧ φ (.str d.py.shown) | _ => False, fun {p E χ as φ} h => by
  split at h
  · exact (on_repr h.1).to h.2
  · exact h.elim⟩
/-! ### expressions -/
def WE.var (i : Nat) : WE K E := ⟨tVar i, 0, fun _ Γ φ => match Γ[i]? with | some (.dat d) => φ d | _ => False, fun {p χ Γ φ} h => by
  split at h
  · rename_i d e; exact (ev_var e).fin h
  · exact h.elim⟩
def WE.int (i : Int) : WE K E := ⟨tC (.int i), 0, fun _ Γ φ => φ (.int i), fun {p χ Γ φ} h => ev_int.fin h⟩
def WE.bl (i : Bool) : WE K E := ⟨tC (.bl i), 0, fun _ Γ φ => φ (.bl i), fun {p χ Γ φ} h => ev_bl.fin h⟩
def WE.str (i : Str) : WE K E := ⟨tC (.str i), 0, fun _ Γ φ => φ (.str i), fun {p χ Γ φ} h => ev_str.fin h⟩
def WE.non : WE K E := ⟨tC .non, 0, fun _ Γ φ => φ .non, fun {p χ Γ φ} h => ev_non.fin h⟩
/-- a tuple of the module -/
def WE.ktup {a : Addr} {xs : List V} (ds : List D) (h : ∀ H, SqT K H a xs) (r : ∀ H, Reps K H xs ds) : WE K E := ⟨tC (.ref a), 0, fun _ Γ φ => φ (.tup ds), fun {p χ Γ φ} f => (ev_ktup (c := ⟨K, p, E, χ⟩) h r).fin f⟩
def WE.op (o : O2 K) (a b : WE K E) : WE K E := ⟨tOp o.r a.t b.t, a.m + b.m, fun χ Γ φ => a.w χ Γ fun x => b.w χ Γ fun y => o.w x y φ, fun {p χ Γ φ} h σ Hd H n s sa pe l x Q q =>
  a.ok h σ Hd H n s sa pe (by omega) x _ fun v d Hd1 H1 g1 pe1 f1 r1 => b.ok f1 σ Hd1 H1 (n + a.m) (s.grow g1) g1.s pe1 (by omega) (x.grow g1) _ fun w2 e Hd2 H2 g2 pe2 f2 r2 =>
    o.ok (p := p) (E := E) (χ := χ) f2 v w2 Hd2 H2 g2.s (r1.mono g2.d) r2 Q fun z d3 Hd3 H3 g3 f3 r3 => q z d3 Hd3 H3 ((g1.trans g2).trans g3.up) (by rw [← Nat.add_assoc]; exact pe2.grow g3) f3 r3⟩
def WE.neg (a : WE K E) : WE K E := ⟨tUn (rU fun i => .int (-i)) a.t, a.m, fun χ Γ φ => a.w χ Γ fun d => ∃ i, d = .int i ∧ φ (.int (-i)), fun {p χ Γ φ} h σ Hd H n s sa pe l x Q q =>
  a.ok h σ Hd H n s sa pe l x _ fun v d Hd1 H1 g1 pe1 ⟨i, e, f⟩ r1 => by subst e; cases r1; exact ⟨i, rfl, q _ _ Hd1 H1 g1 pe1 f (.int _)⟩⟩
/-- a < b < c of whole numbers -/
def WE.chain (f g : Int → Int → Bool) (a b d : WE K E) : WE K E := ⟨tChain (rI0 fun i j => V.bl (f i j)) (rI0 fun i j => V.bl (g i j)) a.t b.t d.t, a.m + b.m + d.m,
  fun χ Γ φ => a.w χ Γ fun x => b.w χ Γ fun y => ∃ i j, x = .int i ∧ y = .int j ∧ (f i j = true → d.w χ Γ fun z => ∃ k, z = .int k ∧ φ (.bl (g j k))) ∧ (f i j = false → φ (.bl false)), fun {p χ Γ φ} h σ Hd H n s sa pe l x Q q =>
  a.ok h σ Hd H n s sa pe (by omega) x _ fun v x1 Hd1 H1 g1 pe1 f1 r1 => b.ok f1 σ Hd1 H1 _ (s.grow g1) g1.s pe1 (by omega) (x.grow g1) _ fun v2 d2 Hd2 H2 g2 pe2 ⟨i, j, e, e2, hT, hF⟩ r2 => by
    subst e; subst e2
    cases r1; cases r2
    refine ⟨_, _, rfl, rfl, _, rfl, ?_⟩
    cases hf : f i j with
    | true =>
      refine d.ok (hT hf) σ Hd2 H2 _ (s.grow (g1.trans g2)) g2.s pe2 (by show n + a.m + b.m + d.m ≤ LIM; omega) (x.grow (g1.trans g2)) _ fun v3 d3 Hd3 H3 g3 pe3 ⟨k, e3, f3⟩ r3 => ?_
      subst e3; cases r3
      exact ⟨_, _, rfl, rfl, q _ _ Hd3 H3 ((g1.trans g2).trans g3) (PenO.more pe3 (by omega)) f3 (.bl _)⟩
    | false => exact q _ _ Hd2 H2 (g1.trans g2) (PenO.more pe2 (by omega)) (hF hf) (.bl _)⟩
def WA.nil : WA K E := ⟨tNil, 0, fun _ Γ φ => φ [], fun {p χ Γ φ} h => ea_nil.imp fun _ e => by rw [e]; exact h⟩
def WA.cons (a : WE K E) (r : WA K E) : WA K E := ⟨tCons a.t r.t, a.m + r.m, fun χ Γ φ => a.w χ Γ fun d => r.w χ Γ fun ds => φ (d :: ds), fun {p χ Γ φ} h σ Hd H n s sa pe l x Q q =>
  a.ok h σ Hd H n s sa pe (by omega) x _ fun v d Hd1 H1 g1 pe1 f1 r1 => r.ok f1 σ Hd1 H1 (n + a.m) (s.grow g1) g1.s pe1 (by omega) (x.grow g1) _ fun w2 b Hd2 H2 g2 pe2 f2 r2 =>
    q (v :: w2) (d :: b) Hd2 H2 (g1.trans g2) (by rw [← Nat.add_assoc]; exact pe2) f2 (.cons (r1.mono g2.d) r2)⟩
def WE.tup (a : WA K E) : WE K E := ⟨tTup a.t, a.m, fun χ Γ φ => a.w χ Γ fun ds => ds.length ≤ 1000 ∧ φ (.tup ds), fun {p χ Γ φ} h => (ev_tup (a.ok h) fun ds f => f.1).imp fun d ⟨ds, e, f⟩ => by rw [e]; exact f.2⟩
def WE.lst (a : WA K E) : WE K E := ⟨tLst a.t, a.m, fun χ Γ φ => a.w χ Γ fun ds => ds.length ≤ 1000 ∧ φ (.lst ds), fun {p χ Γ φ} h => (ev_lst (a.ok h) fun ds f => f.1).imp fun d ⟨ds, e, f⟩ => by rw [e]; exact f.2⟩
def WT.tst (a : WE K E) : WT K E := ⟨tTest a.t, a.m, fun χ Γ φ => a.w χ Γ fun d => ∃ b, d = .bl b ∧ φ b, fun {p χ Γ φ} h => eb_test (a.ok h)⟩
def WT.b (a : WE K E) : WT K E := ⟨tB a.t, a.m, fun χ Γ φ => a.w χ Γ fun d => ∃ b, d = .bl b ∧ φ b, fun {p χ Γ φ} h => eb_B (a.ok h)⟩
def WT.not (a : WT K E) : WT K E := ⟨tNot a.t, a.m, fun χ Γ φ => a.w χ Γ fun b => φ (!b), fun {p χ Γ φ} h => (eb_not (β1 := fun b => φ (!b)) (a.ok h)).imp fun b q => by simpa using q⟩
def WT.yes : WT K E := ⟨tYes, 0, fun χ Γ φ => φ true, fun {p χ Γ φ} h => eb_yes.imp fun b e => by rw [e]; exact h⟩
def WT.and (a b : WT K E) : WT K E := ⟨tAnd a.t b.t, a.m + b.m, fun χ Γ φ => a.w χ Γ fun k => (k = true → b.w χ Γ φ) ∧ (k = false → φ false), fun {p χ Γ φ} h => eb_and (a.ok h) (fun f => b.ok (f.1 rfl)) fun f => f.2 rfl⟩
def WT.or (a b : WT K E) : WT K E := ⟨tOr a.t b.t, a.m + b.m, fun χ Γ φ => a.w χ Γ fun k => (k = false → b.w χ Γ φ) ∧ (k = true → φ true), fun {p χ Γ φ} h => eb_or (a.ok h) (fun f => b.ok (f.1 rfl)) fun f => f.2 rfl⟩
def WE.andV (a b : WE K E) : WE K E := ⟨tAndV a.t b.t, a.m + b.m, fun χ Γ φ => a.w χ Γ fun d => ∃ k, d = .bl k ∧ (k = true → b.w χ Γ φ) ∧ (k = false → φ (.bl false)), fun {p χ Γ φ} h => ev_andV (β := fun k => (k = true → b.w χ Γ φ) ∧ (k = false → φ (.bl false))) (a.ok h) (fun f => b.ok (f.1 rfl)) fun f => f.2 rfl⟩
def WE.orV (a b : WE K E) : WE K E := ⟨tOrV a.t b.t, a.m + b.m, fun χ Γ φ => a.w χ Γ fun d => ∃ k, d = .bl k ∧ (k = false → b.w χ Γ φ) ∧ (k = true → φ (.bl true)), fun {p χ Γ φ} h => ev_orV (β := fun k => (k = false → b.w χ Γ φ) ∧ (k = true → φ (.bl true))) (a.ok h) (fun f => b.ok (f.1 rfl)) fun f => f.2 rfl⟩
def WE.notV (a : WE K E) : WE K E := ⟨tNotV a.t, a.m, fun χ Γ φ => a.w χ Γ fun d => ∃ k, d = .bl k ∧ φ (.bl (!k)), fun {p χ Γ φ} h σ Hd H n s sa pe l x Q q =>
  a.ok h σ Hd H n s sa pe l x _ fun v d Hd1 H1 g1 pe1 ⟨k, e, f⟩ r1 => by subst e; cases r1; exact ⟨k, rfl, q _ _ Hd1 H1 g1 pe1 f (.bl _)⟩⟩
def WE.ite (t : WT K E) (a b : WE K E) : WE K E := ⟨tIf t.t a.t b.t, t.m + (a.m + b.m), fun χ Γ φ => t.w χ Γ fun k => (k = true → a.w χ Γ φ) ∧ (k = false → b.w χ Γ φ), fun {p χ Γ φ} h => ev_if (t.ok h) (fun f => (a.ok (f.1 rfl)).more (by omega)) fun f => (b.ok (f.2 rfl)).more (by omega)⟩
def WO.none : WO K E := ⟨tNoPart, 0, fun χ Γ φ => φ .none, fun {p χ Γ φ} h σ Hd H n s sa pe l x Q q => q .none Hd H (.refl sa) pe h⟩
def WO.some (a : WE K E) : WO K E := ⟨tPart a.t, a.m, fun χ Γ φ => a.w χ Γ fun d => ∃ i, d = .int i ∧ φ (.some i), fun {p χ Γ φ} h σ Hd H n s sa pe l x Q q =>
  a.ok h σ Hd H n s sa pe l x _ fun v d Hd1 H1 g1 pe1 ⟨i, e, f⟩ r1 => by subst e; cases r1; exact ⟨i, rfl, q _ Hd1 H1 g1 pe1 f⟩⟩

theorem sl_op {Hd H : Hp} {v : V} {d : D} {lo hi : Option Int} (sa : Same Hd H) (r : Rep K Hd v d) (hs : d.seq = true) {Q : VK} (q : ∀ v Hd' H', Grow none Hd H Hd' H' → Rep K Hd' v (d.cut lo hi) → Q v H') : rSlU K v lo hi H Q := by
  cases r with
  | tup h1 r =>
    rename_i a xs ds
    refine .inl ⟨a, xs, rfl, same_sqt sa h1, fun e => ?_, fun ne p hp => ?_⟩
    · have e' : cutD ds lo hi = ds := by
        unfold cutD
        rw [r.length] at e
        rw [e.1, e.2, List.drop_zero, Nat.sub_zero, List.take_length]
      exact q _ Hd H (.refl sa) (by show Rep K Hd _ (D.tup (cutD ds lo hi)); rw [e']; exact .tup h1 r)
    · have g := Grow.new (p := none) (o := HO.tup (cutV xs lo hi)) sa hp
      exact q _ _ _ g (.tup (SqT.of upd_same) ((r.cut lo hi).mono g.d))
  | lst h1 r =>
    rename_i a xs ds
    refine .inr (.inl ⟨a, xs, rfl, SqL.of (sa _ _ h1), fun p hp => ?_⟩)
    have g := Grow.new (p := none) (o := HO.lst (cutV xs lo hi)) sa hp
    exact q _ _ _ g (.lst upd_same ((r.cut lo hi).mono g.d))
  | str z =>
    have hz : z.length ≤ 1000000 := of_decide_eq_true hs
    exact .inr (.inr ⟨z, rfl, by rw [sizeLine_eq]; omega, q _ Hd H (.refl sa) (.str _)⟩)
  | _ => cases hs
def WE.sl (a : WE K E) (lo hi : WO K E) : WE K E := ⟨tSl (rSlU K) a.t lo.t hi.t, a.m + lo.m + hi.m, fun χ Γ φ => a.w χ Γ fun d => lo.w χ Γ fun l => hi.w χ Γ fun h => d.seq = true ∧ φ (d.cut l h), fun {p χ Γ φ} h σ Hd H n s sa pe l x Q q =>
  a.ok h σ Hd H n s sa pe (by omega) x _ fun v d Hd1 H1 g1 pe1 f1 r1 => lo.ok f1 σ Hd1 H1 _ (s.grow g1) g1.s pe1 (by omega) (x.grow g1) _ fun lo1 Hd2 H2 g2 pe2 f2 => hi.ok f2 σ Hd2 H2 _ (s.grow (g1.trans g2)) g2.s pe2 (by show n + a.m + lo.m + hi.m ≤ LIM; omega) (x.grow (g1.trans g2)) _ fun hi1 Hd3 H3 g3 pe3 f3 => by
    have gg := (g1.trans g2).trans g3
    have e3 : n + a.m + lo.m + hi.m = n + (a.m + lo.m + hi.m) := by omega
    rw [e3] at pe3
    exact sl_op g3.s (r1.mono (g2.trans g3).d) f3.1 fun v' Hd' H' g r => q v' _ Hd' H' (gg.trans g.up) (pe3.grow g) f3.2 r⟩
def WE.cb (o : ON K) (a : WA K E) : WE K E := ⟨tCB o.r a.t, a.m, fun χ Γ φ => a.w χ Γ fun ds => o.w ds φ, fun {p χ Γ φ} h σ Hd H n s sa pe l x Q q =>
  a.ok h σ Hd H n s sa pe l x _ fun vs ds Hd1 H1 g1 pe1 f r => o.ok (p := p) (E := E) (χ := χ) f vs Hd1 H1 g1.s r Q fun v d Hd2 H2 g2 f2 r2 => q v d Hd2 H2 (g1.trans g2.up) (pe1.grow g2) f2 r2⟩
def WE.isi (T : String) (a : WE K E) (hT : T ∈ isiTys := by decide) : WE K E := ⟨tCB (rIsi K) (tCons a.t (tCons (tC (.ty T)) tNil)), a.m, fun χ Γ φ => a.w χ Γ fun d => d.builtin = true ∧ φ (.bl (isiB d T)), fun {p χ Γ φ} h σ Hd H n s sa pe l x Q q =>
  a.ok h σ Hd H n s sa pe l x _ fun v d Hd1 H1 g1 pe1 f r =>
    on_isi (c := ⟨K, p, E, χ⟩) f.1 (kit_isi f.1 hT) _ Hd1 H1 g1.s ⟨v, r, rfl⟩ Q (q _ _ Hd1 H1 g1 pe1 f.2 (.bl _))⟩
def WE.isi2 (T U : String) (a : WE K E) (hT : T ∈ isiTys := by decide) (hU : U ∈ isiTys := by decide) : WE K E := ⟨tCB (rIsiT K) (tCons a.t (tCons (tTup (tCons (tC (.ty T)) (tCons (tC (.ty U)) tNil))) tNil)), a.m, fun χ Γ φ => a.w χ Γ fun d => d.builtin = true ∧ φ (.bl (isiB d T || isiB d U)), fun {p χ Γ φ} h σ Hd H n s sa pe l x Q q =>
  a.ok h σ Hd H n s sa pe l x _ fun v d Hd1 H1 g1 pe1 f r => by
    refine ⟨by rw [sizeLine_eq]; show 2 ≤ _; omega, fun p hp => ?_⟩
    have g := Grow.new (p := none) (o := HO.tup [V.ty T, V.ty U]) g1.s hp
    have hk := kitL_isi (d := d) (Ts := [T, U]) f.1 (by intro V hV; simp only [List.mem_cons, List.not_mem_nil, or_false] at hV; rcases hV with rfl | rfl <;> assumption)
    refine ⟨v, p, _, _, _, _, rfl, upd_same, cls_all [T, U], rep_ty (g.d.trans g.s) f.1 r, kitL_any hk, q _ _ _ _ (g1.trans g.up) (pe1.grow g) ?_ (.bl _)⟩
    have e : ([T, U].any (isiB d)) = (isiB d T || isiB d U) := by simp
    rw [e]; exact f.2⟩
/-! calls of defs -/
def WE.call (pre : List D → Prop) (post : List D → D → Prop) (a : WA K E) : WE K E := ⟨tCall (SpP K pre post) [] L2.E0 a.t, a.m, fun χ Γ φ => a.w χ Γ fun ds => pre ds ∧ ∀ d, post ds d → φ d, fun {p χ Γ φ} h =>
  ev_call rfl (a.ok h) (fun ds f => f.1) fun ds d f k => f.2 d k⟩
def WE.callD {dvs : List V} {des : List D} (pre : List D → Prop) (post : List D → D → Prop) (hd : ∀ H, Reps K H dvs des) (a : WA K E) : WE K E := ⟨tCall (SpP K pre post) dvs L2.E0 a.t, a.m, fun χ Γ φ => a.w χ Γ fun ds => pre (ds ++ des) ∧ ∀ d, post (ds ++ des) d → φ d, fun {p χ Γ φ} h σ Hd H n s sa pe l x Q q =>
  a.ok h σ Hd H n s sa pe l x _ fun vs ds' Hd1 H1 g1 pe1 f rr => ⟨Hd1, ds' ++ des, g1.s, rr.append (hd Hd1), f.1, fun v d Hd2 H2 g2 f2 r2 => q v d Hd2 H2 (g1.trans g2.up) (pe1.grow g2) (f.2 d f2) r2⟩⟩
def WE.callX (pre : List D → Prop) (post : List D → D → Prop) (χ' : List D → Xq) (a : WA K E) : WE K E := ⟨tCall (SpX K pre post χ') [] E a.t, a.m, fun χ Γ φ => a.w χ Γ fun ds => pre ds ∧ (∀ d, post ds d → φ d) ∧ ∀ C fs, χ' ds C fs → χ C fs, fun {p χ Γ φ} h =>
  ev_callX rfl rfl (a.ok h) (fun ds f => f.1) (fun ds d f k => f.2.1 d k) fun ds C fs f k => f.2.2 C fs k⟩
/-- by the pen -/
def WE.callG (k : Nat) (pre : List D → Prop) (post : List D → D → Prop) (i : Nat) (a : WA K E) : WE K E := ⟨tCall (SpG K k pre post) [] L2.E0 (tCons (tVar i) a.t), a.m + k, fun χ Γ φ => Γ[i]? = some .pen ∧ a.w χ Γ fun ds => pre ds ∧ ∀ d, post ds d → φ d, fun {p χ Γ φ} h =>
  ev_callG rfl h.1 (a.ok h.2) (fun ds f => f.1) fun ds d f k => f.2 d k⟩
def WE.split (a b : WE K E) : WE K E := ⟨tM1 rSplitD a.t b.t, a.m + b.m, fun χ Γ φ => a.w χ Γ fun x => ∃ z, x = .str z ∧ b.w χ Γ fun y => ∃ u, y = .str u ∧ (u.length == 0) = false ∧ z.length ≤ 1000000 ∧ φ (.lst ((Txt.split z u).map .str)), fun {p χ Γ φ} h σ Hd H n s sa pe l x Q q =>
  a.ok h σ Hd H n s sa pe (by omega) x _ fun v d Hd1 H1 g1 pe1 ⟨z, e, f1⟩ r1 => by
    subst e; cases r1
    refine ⟨⟨z, rfl⟩, b.ok f1 σ Hd1 H1 _ (s.grow g1) g1.s pe1 (by omega) (x.grow g1) _ fun v d Hd2 H2 g2 pe2 ⟨u, e, hb, ha, f2⟩ r2 => ?_⟩
    subst e; cases r2
    refine ⟨z, u, rfl, rfl, hb, by rw [sizeLine_eq]; omega, fun p hp => ?_⟩
    have g := Grow.new (p := none) (o := HO.lst ((Txt.split z u).map V.str)) g2.s hp
    exact q _ _ _ _ ((g1.trans g2).trans g.up) (by rw [← Nat.add_assoc]; exact pe2.grow g) f2 (.lst upd_same (reps_strs _))⟩
def WE.dget (a b : WE K E) : WE K E := ⟨tDGet a.t b.t, a.m + b.m, fun χ Γ φ => a.w χ Γ fun x => b.w χ Γ fun y => match x with | .dct ks ds => ∃ j d, y = keyD j ∧ valD ks ds j = some d ∧ φ d | _ => False, fun {p χ Γ φ} h σ Hd H n s sa pe l x Q q =>
  a.ok h σ Hd H n s sa pe (by omega) x _ fun v d' Hd1 H1 g1 pe1 f1 r1 => b.ok f1 σ Hd1 H1 _ (s.grow g1) g1.s pe1 (by omega) (x.grow g1) _ fun v2 d2 Hd2 H2 g2 pe2 f2 r2 => by
    cases r1 with
    | dct z1 z2 z3 =>
      obtain ⟨j, d, e, hv, f2⟩ := f2
      subst e
      obtain ⟨w, q1, q2⟩ := valV_zip (z3.mono g2.d) hv
      have ek : v2 = kV j := by cases j <;> (cases r2; rfl)
      subst ek
      exact ⟨_, w, rfl, by rw [← q1]; exact DGet.k (g2.s _ _ (g2.d _ _ z1)), q w _ Hd2 H2 (g1.trans g2) (by rw [← Nat.add_assoc]; exact pe2) f2 q2⟩
    | _ => exact f2.elim⟩
/-! dicts written -/
structure WD (K : PySem.W.Frag) (E : XK) where
  t : List (TE × TE)
  ks : List Key
  m : Nat
  w : Xq → List Sk → (List D → Prop) → Prop
  ok : ∀ {p : Pn} {χ : Xq} {Γ : List Sk} {φ : List D → Prop}, w χ Γ φ → ∀ σ Hd H n, SR K p Hd H σ Γ → Same Hd H → PenO p n Hd H → n + m ≤ LIM → Xs ⟨K, p, E, χ⟩ Hd H → ∀ Q : List (V × V) → Hp → Prop,
    (∀ vs ds Hd' H', Grow p.a Hd H Hd' H' → PenO p (n + m) Hd' H' → φ ds → Reps K Hd' vs ds → ks.length = vs.length → Q ((ks.zip vs).map fun kv => (kV kv.1, kv.2)) H') → tPairs t σ H Q
def WD.nil : WD K E := ⟨[], [], 0, fun χ Γ φ => φ [], fun {p χ Γ φ} h σ Hd H n s sa pe l x Q q => q [] [] Hd H (.refl sa) pe h .nil rfl⟩
def WD.cons (k : Str) (a : WE K E) (r : WD K E) : WD K E := ⟨(tC (.str k), a.t) :: r.t, .inr k :: r.ks, a.m + r.m, fun χ Γ φ => a.w χ Γ fun d => r.w χ Γ fun ds => φ (d :: ds), fun {p χ Γ φ} h σ Hd H n s sa pe l x Q q =>
  a.ok h σ Hd H n s sa pe (by omega) x _ fun v d Hd1 H1 g1 pe1 f1 r1 => r.ok f1 σ Hd1 H1 (n + a.m) (s.grow g1) g1.s pe1 (by omega) (x.grow g1) _ fun vs ds Hd2 H2 g2 pe2 f2 r2 hl =>
    q (v :: vs) (d :: ds) Hd2 H2 (g1.trans g2) (by rw [← Nat.add_assoc]; exact pe2) f2 (.cons (r1.mono g2.d) r2) (by rw [List.length_cons, List.length_cons, hl])⟩
theorem putK_new {kvs : List (Key × V)} {k : Key} {v : V} (h : k ∉ kvs.map (·.1)) : putK kvs k v = kvs ++ [(k, v)] := by
  unfold putK
  rw [if_neg]
  intro z
  obtain ⟨x, hx, e⟩ := List.any_eq_true.mp z
  exact h (List.mem_map.mpr ⟨x, hx, of_decide_eq_true e⟩)
theorem mergeK_new : ∀ {more kvs : List (Key × V)}, (kvs.map (·.1) ++ more.map (·.1)).Nodup → mergeK kvs more = kvs ++ more
  | [], kvs, _ => by simp [mergeK]
  | (k, v) :: more, kvs, h => by
    have h1 : k ∉ kvs.map (·.1) := by
      intro z
      rw [List.nodup_append] at h
      exact h.2.2 k z k (by simp) rfl
    show mergeK (putK kvs k v) more = _
    rw [putK_new h1, mergeK_new (by rw [List.map_append, List.append_assoc]; exact h), List.append_assoc]
    rfl
def WE.disp (a : WD K E) (hn : a.ks.Nodup) (hl : a.ks.length ≤ 15) : WE K E := ⟨tDisp a.t, a.m, fun χ Γ φ => a.w χ Γ fun ds => φ (.dct a.ks ds), fun {p χ Γ φ} h σ Hd H n s sa pe l x Q q => fun Da hD => by
  have nd : Hd Da = none := sa.free hD
  have npa : p.a ≠ some Da := fun z => by
    cases hp : p with
    | none => rw [hp] at z; cases z
    | some ac =>
      rw [hp] at z pe
      have z' : ac.1 = Da := by simpa using z
      obtain ⟨⟨i, dg, ct, fd, e1, _⟩, _⟩ := pe
      rw [z', hD] at e1; cases e1
  have g0 : Grow p.a Hd H Hd (upd H Da (.dK [])) := Grow.loc sa hD
  refine a.ok h σ Hd _ n (s.grow g0) g0.s (pe.write npa (pl_free hD)) l (x.grow g0) _ fun vs ds Hd1 H1 g1 pe1 f r hk => ?_
  have eD : H1 Da = some (.dK []) := g1.h _ _ npa (.inr fun _ z => by cases z) upd_same
  have nd1 : Hd1 Da = none := g1.f _ (by rw [upd_same]; simp) nd
  refine ⟨eD, a.ks.zip vs, rfl, by rw [List.length_zip]; omega, ?_⟩
  have em : mergeK [] (a.ks.zip vs) = a.ks.zip vs := by
    rw [mergeK_new]
    · rfl
    · show (List.map (·.1) (a.ks.zip vs)).Nodup
      rw [List.map_fst_zip (by omega)]; exact hn
  rw [em]
  have gw : Grow p.a Hd H Hd1 (upd H1 Da (.dK (a.ks.zip vs))) := (g0.trans g1).write hD nd1 (pl_some eD rfl)
  have gf : Grow p.a Hd H (upd Hd1 Da (.dK (a.ks.zip vs))) (upd H1 Da (.dK (a.ks.zip vs))) := gw.freeze sa hD nd1 upd_same
  exact q _ (.dct a.ks ds) _ _ gf ((pe1.write npa (pl_some eD rfl)).freeze npa nd1 (pl_some upd_same rfl)) f (.dct upd_same hk (r.mono fun b u e => by rw [upd_ne (ne_of_none e nd1)]; exact e))⟩
/-! ### iteration -/
def WI.seq (a : WE K E) : WI K E := ⟨iSeq K a.t, a.m, fun χ Γ φ => a.w χ Γ fun d => ∃ ds, itemsOf d = some ds ∧ φ ds, fun {p χ Γ φ} h => ei_seq (c := ⟨K, p, E, χ⟩) (a.ok h)⟩
def WI.rng1 (a : WA K E) : WI K E := ⟨iRng1 a.t, a.m, fun χ Γ φ => a.w χ Γ fun ds => ∃ n, ds = [.int n] ∧ (-(2 ^ 62) ≤ n ∧ n < 2 ^ 62) ∧ φ (rngD 0 n.toNat), fun {p χ Γ φ} h => (ei_rng1 (c := ⟨K, p, E, χ⟩) (ι := fun n => (-(2 ^ 62) ≤ n ∧ n < 2 ^ 62) ∧ φ (rngD 0 n.toNat)) (a.ok h) fun n f => f.1).imp fun ds ⟨n, f, e⟩ => by rw [e]; exact f.2⟩
def WI.rng2 (a : WA K E) : WI K E := ⟨iRng2 a.t, a.m, fun χ Γ φ => a.w χ Γ fun ds => ∃ i n, ds = [.int i, .int n] ∧ (-(2 ^ 62) ≤ i ∧ i < 2 ^ 62 ∧ -(2 ^ 62) ≤ n ∧ n < 2 ^ 62) ∧ φ (rngD i (n - i).toNat), fun {p χ Γ φ} h σ Hd H n' s sa pe l x R q =>
  a.ok h σ Hd H n' s sa pe l x _ fun vs ds Hd1 H1 g1 pe1 ⟨i, n, e, b, f⟩ r1 => by
    subst e
    cases r1 with | cons a r => cases r with | cons a' r => cases r; cases a; cases a'; exact ⟨i, n, rfl, b, q _ _ Hd1 H1 g1 pe1 f (itd_rng i _)⟩⟩
def WI.enum (a : WA K E) : WI K E := ⟨iEnum K a.t, a.m, fun χ Γ φ => a.w χ Γ fun as => ∃ ds, as = [.lst ds] ∧ φ (enumD ds), fun {p χ Γ φ} h => (ei_enum (c := ⟨K, p, E, χ⟩) (ψ := fun ds => φ (enumD ds)) (a.ok h)).imp fun es ⟨ds, f, e⟩ => by rw [e]; exact f⟩
def WI.zip (a : WA K E) : WI K E := ⟨RZ.iZipA K a.t, a.m, fun χ Γ φ => a.w χ Γ fun as => ∃ ds es, (as = [.lst ds, .lst es] ∨ as = [.tup ds, .tup es]) ∧ φ (zipD ds es), fun {p χ Γ φ} h σ Hd H n s sa pe l x R q =>
  a.ok h σ Hd H n s sa pe l x _ fun vs as Hd1 H1 g1 pe1 ⟨ds, es, e, f⟩ r1 => by
    rcases e with e | e
    · subst e
      rcases r1 with _ | ⟨a, _ | ⟨a', _ | _⟩⟩
      cases a with | lst h1 r => cases a' with | lst h2 r2 => exact ⟨_, _, _, _, rfl, .inl ⟨SqL.of (g1.s _ _ h1), SqL.of (g1.s _ _ h2), q _ _ Hd1 H1 g1 pe1 f (itd_zip h1 r h2 r2)⟩⟩
    · subst e
      rcases r1 with _ | ⟨a, _ | ⟨a', _ | _⟩⟩
      cases a with | tup h1 r => cases a' with | tup h2 r2 => exact ⟨_, _, _, _, rfl, .inr ⟨same_sqt g1.s h1, same_sqt g1.s h2, q _ _ Hd1 H1 g1 pe1 f (itd_zipT h1 r h2 r2)⟩⟩⟩
/-! ### targets -/
def WG.name (i : Nat) : WG K := ⟨gName i, [i], fun d => some [(i, d)], fun {d l} e j hj => by cases e; exact hj, fun {p E χ d l} e => by cases e; exact tg_name⟩
def WGs.nil : WGs K := ⟨gNil, [], 0, fun ds => match ds with | [] => some [] | _ => none, fun {d l} e j hj => by split at e <;> cases e; exact hj, fun {d l} e => by split at e <;> cases e; rfl, fun {p E χ d l} e => by split at e <;> cases e; exact tgs_nil⟩
def WGs.cons (a : WG K) (r : WGs K) : WGs K where
  t := gCons a.t r.t
  is := a.is ++ r.is
  n := r.n + 1
  ps := fun ds => match ds with | d :: ds => (a.ps d).bind fun l => (r.ps ds).bind fun l2 => some (l ++ l2) | [] => none
  sub := fun {d l} e j hj => by
    split at e
    · obtain ⟨l1, e1, e⟩ := Option.bind_eq_some_iff.mp e
      obtain ⟨l2, e2, e⟩ := Option.bind_eq_some_iff.mp e
      cases e
      rw [List.map_append, List.mem_append] at hj
      exact List.mem_append.mpr (hj.imp (a.sub e1 j) (r.sub e2 j))
    · cases e
  len := fun {d l} e => by
    split at e
    · obtain ⟨l1, e1, e⟩ := Option.bind_eq_some_iff.mp e
      obtain ⟨l2, e2, e⟩ := Option.bind_eq_some_iff.mp e
      rw [List.length_cons, r.len e2]
    · cases e
  ok := fun {p E χ d l} e => by
    split at e
    · obtain ⟨l1, e1, e⟩ := Option.bind_eq_some_iff.mp e
      obtain ⟨l2, e2, e⟩ := Option.bind_eq_some_iff.mp e
      cases e
      exact tgs_cons (a.ok e1) (r.ok e2)
    · cases e
def WG.tup (r : WGs K) : WG K where
  t := gTup K r.n r.t
  is := r.is
  ps := fun d => match d with | .tup ds => r.ps ds | _ => none
  sub := fun {d l} e => by
    split at e
    · exact r.sub e
    · cases e
  ok := fun {p E χ d l} e => by
    split at e
    · exact tg_tup (c := ⟨K, p, E, χ⟩) (r.ok e) (r.len e)
    · cases e
def WG.seq (r : WGs K) : WG K where
  t := gSeq K r.n r.t
  is := r.is
  ps := fun d => match d.its with | some ds => r.ps ds | none => none
  sub := fun {d l} e => by
    split at e
    · exact r.sub e
    · cases e
  ok := fun {p E χ d l} e => by
    split at e
    · rename_i h; exact tg_seq (c := ⟨K, p, E, χ⟩) h (r.ok e) (r.len e)
    · cases e
/-! ### comprehensions -/
def LcP (g : WG K) (tt : WT K E) (te : WE K E) (χ : Xq) (Γ : List Sk) (L : Nat) (ds : List D) (φ : D → Prop) : Prop := ds.length ≤ L ∧ ∃ (T : D → Bool → Prop) (F : D → D → Prop),
  (∀ d ∈ ds, ∃ ps, g.ps d = some ps ∧ tt.w χ (setD (wipeG Γ g.is) ps) (T d) ∧ (T d true → te.w χ (setD (wipeG Γ g.is) ps) (F d))) ∧ ∀ es, Cmp T F ds es → φ (.lst es)
/-- .. gives a new list, which is no data as yet -/
def EvF (c : Ct) (te : TE) (Γ : List Sk) (m : Nat) (φ : List D → Prop) : Prop := ∀ σ Hd H n, SR c.K c.p Hd H σ Γ → Same Hd H → PenO c.p n Hd H → n + m ≤ LIM → Xs c Hd H → ∀ Q : VK,
  (∀ a vs ds Hd' H', Grow c.p.a Hd H Hd' H' → H' a = some (.lst vs) → Hd' a = none → H a = none → c.p.a ≠ some a → PenO c.p (n + m) Hd' H' → φ ds → Reps c.K Hd' vs ds → Q (.ref a) H') → te σ H Q
theorem ev_lcF (wi : WI K E) (g : WG K) (tt : WT K E) (te : WE K E) {L : Nat} (hz : L < 1000000) {p : Pn} {χ : Xq} {Γ : List Sk} {φ : List D → Prop} (hi : wi.w χ Γ fun ds => LcP g tt te χ Γ L ds (fun d => ∃ es, d = .lst es ∧ φ es)) :
    EvF ⟨K, p, E, χ⟩ (tLc wi.t g.t tt.t te.t g.is) Γ (wi.m + L * (tt.m + te.m)) φ := fun σ Hd H n s sa pe l x Q q => by
  have hLc : n + wi.m ≤ LIM := by have := Nat.zero_le (L * (tt.m + te.m)); omega
  refine wi.ok hi σ Hd H n s sa pe hLc x _ fun J ds Hd1 H1 g1 pe1 f J1 => fun Da hD => ?_
  obtain ⟨hl, T, F, h, fin⟩ := f
  have nd1 : Hd1 Da = none := g1.s.free hD
  have npa : p.a ≠ some Da := fun z => by
    cases hp : p with
    | none => rw [hp] at z; cases z
    | some ac =>
      rw [hp] at z pe1
      have z' : ac.1 = Da := by simpa using z
      obtain ⟨⟨i, dg, ct, fd, e1, _⟩, _⟩ := pe1
      rw [z', hD] at e1; cases e1
  let Pv : Nat → Hp → Prop := fun i Hx => ∃ Hd2 acc es, Grow p.a Hd1 H1 Hd2 Hx ∧ Hx Da = some (.lst acc) ∧ Hd2 Da = none ∧ PenO p (n + wi.m + i * (tt.m + te.m)) Hd2 Hx ∧ Reps K Hd2 acc es ∧ Cmp T F (ds.take i) es
  have key : ∀ i, i ≤ ds.length → i * (tt.m + te.m) ≤ L * (tt.m + te.m) := fun i hi => Nat.mul_le_mul_right _ (by omega)
  refine ⟨fun i m Hx => m = ds.length - i ∧ i ≤ ds.length ∧ Pv i Hx, ⟨ds.length, by simp, Nat.zero_le _, Hd1, [], [], Grow.loc g1.s hD, upd_same, nd1, ?_, .nil, .nil⟩, ?_⟩
  · have := pe1.write (b := Da) (o := .lst []) npa (pl_free hD)
    simpa using this
  rintro i m Hx ⟨rfl, hi, Hd2, acc, es, gx, hx, nd, px, rx, cx⟩
  obtain ⟨go, stop, yld⟩ := J1 Hd2 Hx gx.d gx.s
  by_cases hlt : i < ds.length
  · refine .inr ⟨go i hlt, Pv (i + 1), fun H' p' => ⟨ds.length - (i + 1), by omega, rfl, hlt, p'⟩, fun v Hy hy => ?_⟩
    have hd : ds[i]? = some ds[i] := by simp
    obtain ⟨Hd3, g3, r3⟩ := yld i v Hy hy _ hd
    obtain ⟨ps, hgp, hb, he⟩ := h ds[i] (List.getElem_mem hlt)
    have tg := g.ok (p := p) (E := E) (χ := χ) hgp
    have hps := g.sub hgp
    have hb := tt.ok (p := p) hb
    have he := fun z => te.ok (p := p) (he z)
    have gT : Grow p.a Hd H Hd3 Hy := ⟨(g1.d.trans gx.d).trans g3.d, fun b o ne k e => g3.h b o (by simp) (.inl rfl) (gx.h b o ne k (g1.h b o ne k e)), g3.s, fun a ha na => g3.f a (gx.m a (g1.m a ha)) (gx.f a (g1.m a ha) (g1.f a ha na)), fun a ha => g3.m a (gx.m a (g1.m a ha)), fun z => g3.t (gx.t (g1.t z))⟩
    have sT : SR K p Hd3 Hy (wipe σ g.is) (wipeG Γ g.is) := (s.grow gT).wipe g.is
    refine tg _ Hd3 Hy v _ sT g3.s r3 _ fun σ2 s2 l2 k2 => ?_
    have l2' : σ2.length = σ.length := by rw [l2, wipe_length]
    refine ⟨wipe_eq k2 l2' hps, ?_⟩
    have p3 := px.grow g3
    have kk := key (i + 1) hlt
    have e1 : (i + 1) * (tt.m + te.m) = i * (tt.m + te.m) + (tt.m + te.m) := Nat.succ_mul _ _
    have hDy : Hy Da = some (.lst acc) := g3.h _ _ (by simp) (.inl rfl) hx
    have nd3 : Hd3 Da = none := g3.f _ (by rw [hx]; simp) nd
    refine hb σ2 Hd3 Hy _ s2 g3.s p3 (by omega) (x.grow gT) _ fun b Hd4 H4 g4 p4 t4 => ?_
    cases b with
    | true =>
      show te.t σ2 H4 _
      refine he t4 σ2 Hd4 H4 _ (s2.grow g4) g4.s p4 (by omega) (x.grow (gT.trans g4)) _ fun y d Hd5 H5 g5 p5 f5 r5 => ?_
      have g45 := g4.trans g5
      have hD5 : H5 Da = some (.lst acc) := g45.h _ _ npa (.inr fun _ z => by cases z) hDy
      have nd5 : Hd5 Da = none := g45.f _ (by rw [hDy]; simp) nd3
      have hla : acc.length = es.length := rx.length
      have hle := cx.len
      refine ⟨acc, hD5, ?_, Hd5, acc ++ [y], es ++ [d], (gx.trans (g3.up.trans g45)).write hD nd5 (pl_some hD5 rfl), upd_same, nd5, ?_, (rx.mono (g3.d.trans g45.d)).append (.cons r5 .nil), ?_⟩
      · rw [List.length_take] at hle
        rw [hla, sizeLine_eq]; omega
      · refine PenO.more (p5.write npa (pl_some hD5 rfl)) (by omega)
      · rw [List.take_add_one, hd]; exact .take t4 f5 cx
    | false =>
      show Pv (i + 1) H4
      refine ⟨Hd4, acc, es, gx.trans (g3.up.trans g4), g4.h _ _ npa (.inr fun _ z => by cases z) hDy, g4.f _ (by rw [hDy]; simp) nd3, PenO.more p4 (by omega), rx.mono (g3.d.trans g4.d), ?_⟩
      rw [List.take_add_one, hd]; exact .skip t4 cx
  · have e : i = ds.length := by omega
    subst e
    refine .inl ⟨stop _ (Nat.le_refl _), ?_⟩
    have kk := key _ (Nat.le_refl ds.length)
    rw [List.take_length] at cx
    obtain ⟨es', e, f'⟩ := fin es cx
    cases e
    exact q Da acc es Hd2 Hx (g1.trans gx) hx nd (g1.free hD) npa (PenO.more px (by omega)) f' rx
theorem EvF.toEv {c : Ct} {te : TE} {Γ : List Sk} {m : Nat} {φ : D → Prop} (h : EvF c te Γ m (fun es => φ (.lst es))) : Ev c te Γ m φ := fun σ Hd H n s sa pe l x Q q =>
  h σ Hd H n s sa pe l x Q fun a vs ds Hd' H' g e nd fr ne pe' f r => q _ _ _ _ (g.freeze sa fr nd e) (pe'.freeze ne nd (pl_some e rfl)) f (.lst upd_same (r.mono fun b u z => by rw [upd_ne (ne_of_none z nd)]; exact z))
theorem ev_lcW (wi : WI K E) (g : WG K) (tt : WT K E) (te : WE K E) {L : Nat} (hz : L < 1000000) {p : Pn} {χ : Xq} {Γ : List Sk} {φ : D → Prop} (hi : wi.w χ Γ fun ds => LcP g tt te χ Γ L ds φ) :
    Ev ⟨K, p, E, χ⟩ (tLc wi.t g.t tt.t te.t g.is) Γ (wi.m + L * (tt.m + te.m)) φ := by
  have e : (fun ds => LcP g tt te χ Γ L ds φ) = fun ds => LcP g tt te χ Γ L ds (fun d => ∃ es, d = .lst es ∧ φ (.lst es)) := by
    funext ds
    refine propext ⟨fun ⟨h1, T, F, h2, h3⟩ => ⟨h1, T, F, h2, fun es c => ⟨es, rfl, h3 es c⟩⟩, fun ⟨h1, T, F, h2, h3⟩ => ⟨h1, T, F, h2, fun es c => ?_⟩⟩
    obtain ⟨es', e, f⟩ := h3 es c
    cases e; exact f
  rw [e] at hi
  exact (ev_lcF (φ := fun es => φ (.lst es)) wi g tt te hz hi).toEv
/-! ### for -/
def ForP (g : WG K) (tb : WS K E) (χ : Xq) (Γ : List Sk) (L : Nat) (W : Wh) (ds : List D) : Prop := ds.length ≤ L ∧ ∃ Iv : Nat → List Sk → Prop, Iv 0 Γ ∧
  (∀ i d Γ', ds[i]? = some d → Iv i Γ' → ∃ ps, g.ps d = some ps ∧ tb.w χ (setD Γ' ps) { N := Iv (i + 1), C := Iv (i + 1), B := W.N, R := W.R }) ∧ ∀ Γ', Iv ds.length Γ' → W.N Γ'
theorem wp_forW (wi : WI K E) (g : WG K) (tb : WS K E) {L : Nat} {p : Pn} {χ : Xq} {Γ : List Sk} {W : Wh} (hi : wi.w χ Γ fun ds => ForP g tb χ Γ L W ds) : Wp ⟨K, p, E, χ⟩ (tFor wi.t g.t tb.t) Γ (wi.m + L * tb.m) W := fun Hb Hd0 H0 σ Hd H n o l x En k1 k2 k3 k4 => by
  have hm : n + wi.m ≤ LIM := by have := Nat.zero_le (L * tb.m); omega
  refine wi.ok hi σ Hd H n o.sr o.g.s o.pe hm (x.grow o.g) _ fun J ds Hd1 H1 g1 pe1 f J1 => ?_
  obtain ⟨hl, Iv, h0, hs, hd⟩ := f
  have key : ∀ i, i ≤ ds.length → i * tb.m ≤ L * tb.m := fun i hi => Nat.mul_le_mul_right _ (by omega)
  have o1 := o.grow g1 pe1
  let Pv : Nat → L2.St → Hp → Prop := fun i σx Hx => ∃ Γx Hdx, Iv i Γx ∧ Ok ⟨K, p, E, χ⟩ Hd1 Hd0 H0 σx Γx Hdx Hx (n + wi.m + i * tb.m)
  refine ⟨fun i m σx Hx => m = ds.length - i ∧ i ≤ ds.length ∧ Pv i σx Hx, ⟨ds.length, by simp, Nat.zero_le _, Γ, Hd1, h0, ⟨Same.refl _, o1.s0, o1.g, o1.sr, by rw [Nat.zero_mul]; exact o1.pe, o1.fr⟩⟩, ?_⟩
  rintro i m σx Hx ⟨rfl, hi, Γx, Hdx, ivx, ox⟩
  obtain ⟨go, stop, yld⟩ := J1 Hdx Hx ox.b ox.g.s
  have back : ∀ {σ' Γ' Hd' H' k}, Ok ⟨K, p, E, χ⟩ Hd1 Hd0 H0 σ' Γ' Hd' H' k → Ok ⟨K, p, E, χ⟩ Hb Hd0 H0 σ' Γ' Hd' H' k := fun o' => ⟨(o.b.trans g1.d).trans o'.b, o'.s0, o'.g, o'.sr, o'.pe, o'.fr⟩
  by_cases hlt : i < ds.length
  · refine .inr ⟨go i hlt, Pv (i + 1), fun σ' H' p' => ⟨ds.length - (i + 1), by omega, rfl, hlt, p'⟩, fun v Hy hy => ?_⟩
    have hd' : ds[i]? = some ds[i] := by simp
    obtain ⟨Hd3, g3, r3⟩ := yld i v Hy hy _ hd'
    obtain ⟨ps, hgp, hb⟩ := hs i _ Γx hd' ivx
    have tg := g.ok (p := p) (E := E) (χ := χ) hgp
    have hb := tb.ok (p := p) hb
    have o3 := ox.grow g3.up (ox.pe.grow g3)
    have kk := key (i + 1) hlt
    have e1 : (i + 1) * tb.m = i * tb.m + tb.m := Nat.succ_mul _ _
    refine tg σx Hd3 Hy v Γx o3.sr o3.g.s r3 _ fun σ2 s2 _ q2 => ?_
    have o4 := o3.tg s2 q2
    refine hb Hd1 Hd0 H0 σ2 Hd3 Hy _ o4 (by omega) x _ ?_ ?_ ?_ ?_
    · intro Γ' σ' Hd' H' iv o5; exact ⟨Γ', Hd', iv, o5.more (by omega)⟩
    · intro Γ' σ' Hd' H' iv o5; exact k1 Γ' σ' Hd' H' iv (back (o5.more (by omega)))
    · intro Γ' σ' Hd' H' iv o5; exact ⟨Γ', Hd', iv, o5.more (by omega)⟩
    · intro v d Hd' H' iv g pe r; exact k4 v d Hd' H' iv g (pe.more (by omega)) r
  · have e : i = ds.length := by omega
    subst e
    have kk := key _ (Nat.le_refl ds.length)
    exact .inl ⟨stop _ (Nat.le_refl _), k1 _ _ _ _ (hd Γx ivx) (back (ox.more (by omega)))⟩

def WE.lc (wi : WI K E) (g : WG K) (tt : WT K E) (te : WE K E) (L : Nat) (hz : L < 1000000 := by decide) : WE K E := ⟨tLc wi.t g.t tt.t te.t g.is, wi.m + L * (tt.m + te.m), fun χ Γ φ => wi.w χ Γ fun ds => LcP g tt te χ Γ L ds φ, fun {p χ Γ φ} h => ev_lcW wi g tt te hz h⟩
/-- a local list seen as data -/
def WE.borrow (i : Nat) (a : WE K E) : WE K E := ⟨a.t, a.m, fun χ Γ φ => match Γ[i]? with | some (.own ds) => a.w noX (Γ.set i (.dat (.lst ds))) fun d => scalar d = true ∧ φ d | _ => False, fun {p χ Γ φ} h => by
  split at h
  · rename_i ds e
    have q := ev_borrow (c := ⟨K, p, E, noX⟩) e (a.ok h) (fun d f => f.1) (fun _ _ z => z)
    exact fun σ Hd H n s sa pe l x Q k => q σ Hd H n s sa pe l (fun _ _ _ _ _ _ z _ => z.elim) Q fun v d Hd' H' g pe' f r => k v d Hd' H' g pe' f.2 r
  · exact h.elim⟩
/-! ### statements -/
def WM.up (a : WE K E) : WM K E := ⟨a.t, a.m, fun χ Γ φ => a.w χ Γ fun d => φ d Γ, fun {p χ Γ φ} h => ((a.ok h).toM).imp fun d G ⟨e, f⟩ => by rw [e]; exact f⟩
def WM.popAt (i : Nat) (a : WE K E) : WM K E := ⟨tBM K "list" rPopAt (tVar i) (tCons a.t tNil), a.m, fun χ Γ φ => match Γ[i]? with | some (.own ds) => a.w χ Γ fun d => ∃ (k : Nat) (x : D), d = .int (k : Int) ∧ ds[k]? = some x ∧ k < 1000000 ∧ φ x (Γ.set i (.own (ds.eraseIdx k))) | _ => False, fun {p χ Γ φ} h => by
  split at h
  · rename_i ds e
    exact evm_popAt (((a.ok h).toM).imp fun d G ⟨eG, k, x, h1, h2, h3, h4⟩ => ⟨ds, k, x, by rw [eG]; exact e, h1, h2, h3, by rw [eG]; exact h4⟩) ⟨ds, e⟩
  · exact h.elim⟩
def WS.next : WS K E := ⟨tNext, 0, fun χ Γ W => W.N Γ, fun {p χ Γ W} h => wp_next h⟩
def WS.brk : WS K E := ⟨tBreak, 0, fun χ Γ W => W.B Γ, fun {p χ Γ W} h => wp_break h⟩
def WS.cont : WS K E := ⟨tCont, 0, fun χ Γ W => W.C Γ, fun {p χ Γ W} h => wp_cont h⟩
def WS.seq (a b : WS K E) : WS K E := ⟨tSeq a.t b.t, a.m + b.m, fun χ Γ W => a.w χ Γ { N := fun G => b.w χ G W, R := W.R, B := W.B, C := W.C }, fun {p χ Γ W} h => wp_seqW (a.ok h) fun _ f => b.ok f⟩
def WS.ret (a : WM K E) : WS K E := ⟨tRet a.t, a.m, fun χ Γ W => a.w χ Γ fun d _ => W.R d, fun {p χ Γ W} h => wp_ret (a.ok h)⟩
def WS.retN : WS K E := ⟨tRetN, 0, fun χ Γ W => W.R .non, fun {p χ Γ W} h => wp_retN h⟩
def WS.asg (j : Nat) (a : WM K E) : WS K E := ⟨tAsg a.t (gName j), a.m, fun χ Γ W => a.w χ Γ fun d G => W.N (G.set j (.dat d)), fun {p χ Γ W} h => wp_asg (a.ok h)⟩
def WS.asgT (g : WG K) (a : WE K E) : WS K E := ⟨tAsg a.t g.t, a.m, fun χ Γ W => a.w χ Γ fun d => ∃ l, g.ps d = some l ∧ W.N (setD Γ l), fun {p χ Γ W} h => wp_asgT (a.ok h) fun d ⟨l, e, f⟩ => ⟨l, g.ok e, f⟩⟩
def WS.asgOwn (j : Nat) (a : WA K E) : WS K E := ⟨tAsg (tLst a.t) (gName j), a.m, fun χ Γ W => a.w χ Γ fun ds => ds.length ≤ 1000 ∧ W.N (Γ.set j (.own ds)), fun {p χ Γ W} h => wp_asgOwn (a.ok h) (fun ds f => f.1) fun ds f => f.2⟩
def WS.drop (a : WM K E) : WS K E := ⟨tDrop a.t, a.m, fun χ Γ W => a.w χ Γ fun _ G => W.N G, fun {p χ Γ W} h => wp_drop (a.ok h)⟩
def WS.ifS (t : WT K E) (a b : WS K E) : WS K E := ⟨tIfS t.t a.t b.t, t.m + (a.m + b.m), fun χ Γ W => t.w χ Γ fun k => (k = true → a.w χ Γ W) ∧ (k = false → b.w χ Γ W), fun {p χ Γ W} h => wp_if (t.ok h) (fun f => (a.ok (f.1 rfl)).more (by omega)) fun f => (b.ok (f.2 rfl)).more (by omega)⟩
def WS.frz (i : Nat) (a : WS K E) : WS K E := ⟨a.t, a.m, fun χ Γ W => match Γ[i]? with | some (.own ds) => a.w χ (Γ.set i (.dat (.lst ds))) W | _ => a.w χ Γ W, fun {p χ Γ W} h => by
  split at h
  · rename_i ds e; exact wp_freeze i e (a.ok h)
  · exact a.ok h⟩
def WS.append (i : Nat) (a : WM K E) : WS K E := ⟨tDrop (tBM K "list" rAppend (tVar i) (tCons a.t tNil)), a.m, fun χ Γ W => (∃ ds, Γ[i]? = some (.own ds)) ∧ a.w χ Γ fun d G => match G[i]? with | some (.own ds) => ds.length < 1000000 ∧ W.N (G.set i (.own (ds ++ [d]))) | _ => False, fun {p χ Γ W} h => wp_append ((a.ok h.2).imp fun d G f => by
  split at f
  · rename_i ds e; exact ⟨ds, e, f.1, f.2⟩
  · exact f.elim) h.1⟩
def WS.forS (wi : WI K E) (g : WG K) (tb : WS K E) (L : Nat) : WS K E := ⟨tFor wi.t g.t tb.t, wi.m + L * tb.m, fun χ Γ W => wi.w χ Γ fun ds => ForP g tb χ Γ L W ds, fun {p χ Γ W} h => wp_forW wi g tb h⟩
def WS.par (i j : Nat) (a b : WE K E) : WS K E := ⟨tPar i j (tCons a.t (tCons b.t tNil)), a.m + b.m, fun χ Γ W => a.w χ Γ fun x => b.w χ Γ fun y => W.N ((Γ.set i (.dat x)).set j (.dat y)), fun {p χ Γ W} h Hb Hd0 H0 σ Hd H n o l x En k1 k2 k3 k4 => by
  have q := (WA.cons a (WA.cons b WA.nil)).ok (p := p) (χ := χ) (Γ := Γ) (φ := fun ds => ∃ a b, ds = [a, b] ∧ W.N ((Γ.set i (.dat a)).set j (.dat b)))
    (show a.w χ Γ fun x => b.w χ Γ fun y => ∃ a b, [x, y] = [a, b] ∧ W.N ((Γ.set i (.dat a)).set j (.dat b)) by
      have e : (fun x => b.w χ Γ fun y => ∃ a b, [x, y] = [a, b] ∧ W.N ((Γ.set i (.dat a)).set j (.dat b))) = fun x => b.w χ Γ fun y => W.N ((Γ.set i (.dat x)).set j (.dat y)) := by
        funext x
        congr 1
        funext y
        refine propext ⟨fun ⟨a, b, e, f⟩ => by cases e; exact f, fun f => ⟨x, y, rfl, f⟩⟩
      rw [e]; exact h)
  refine q σ Hd H n o.sr o.g.s o.pe l (x.grow o.g) (fun vs H1 => ∃ v w, vs = [v, w] ∧ En.nx ((σ.set i (some v)).set j (some w)) H1) fun vs ds Hd' H' g pe f r => ?_
  obtain ⟨a, b, e, w⟩ := f
  subst e
  cases r with | cons ra r => cases r with | cons rb r => cases r; exact ⟨_, _, rfl, k1 _ _ _ _ w (((o.grow g pe).set ra).set rb)⟩⟩
/-- left, found = list(e), [] : both one's own -/
def WS.parLE (i j : Nat) (a : WE K E) : WS K E := ⟨tPar i j (tCons (WE.cb (E := E) ON.list (WA.cons a WA.nil)).t (tCons (tLst tNil) tNil)), a.m, fun χ Γ W => a.w χ Γ fun x => ∃ ds, x.its = some ds ∧ W.N ((Γ.set i (.own ds)).set j (.own [])), fun {p χ Γ W} h Hb Hd0 H0 σ Hd H n o l x En k1 k2 k3 k4 => by
  refine a.ok h σ Hd H n o.sr o.g.s o.pe l (x.grow o.g) _ fun v d Hd1 H1 g1 pe1 ⟨ds, e, f⟩ r => ?_
  have o1 := o.grow g1 pe1
  have fin : ∀ (ys : List V) (l : Addr), Reps K Hd1 ys ds → H1 l = none → ∀ b, upd H1 l (.lst ys) b = none → En.nx ((σ.set i (some (.ref l))).set j (some (.ref b))) (upd (upd H1 l (.lst ys)) b (.lst [])) := fun ys l r hl b hb =>
    k1 _ _ _ _ f ((o1.newOwn (i := i) hl r).newOwn (i := j) hb .nil)
  cases r with
  | tup h1 r => cases e; exact ⟨_, _, rfl, .inr (same_sqt o1.g.s h1), fun l hl => ⟨by simp, fun b hb => ⟨_, _, rfl, fin _ l r hl b hb⟩⟩⟩
  | lst h1 r => cases e; exact ⟨_, _, rfl, .inl (SqL.of (o1.g.s _ _ h1)), fun l hl => ⟨by simp, fun b hb => ⟨_, _, rfl, fin _ l r hl b hb⟩⟩⟩
  | _ => cases e⟩
end
/-! ### defs by their terms -/
section
variable {P : Program} {w : World} {K : PySem.W.Frag} {mg : Str → Option Value} {base : Heap} {x : Str} {k : Nat} {ps N : List Str} {dvs : List V} {st : Stmt} {pre : List D → Prop} {post : List D → D → Prop} {m : Nat}
theorem cal_W (T : WS K L2.E0) (Df : Def K mg x st ps dvs) (S : FnScope N ps (defScope st)) (hl : ∀ ds, pre ds → ds.length = ps.length)
    (hb : ∀ (f : Addr) (cdv : Value) (A : Around) (outer : List Env) (s : Shared) (H : Hp) (E : XK), Room k (A.deeper (envOfC x (defScope st) s.heap.objs.size f cdv)) → NoG (A.deeper (envOfC x (defScope st) s.heap.objs.size f cdv)) →
      ∃ t, PSs (cxOf CX0 P w K mg base N x (defScope st) f cdv A outer s H E).nox (defBody st) t ∧ t = T.t) (hm : T.m = 0) (hw : ∀ ds, pre ds → T.w noX (G0 N ds) (retW (post ds))) : Cal P w K mg base x (k + 1) ps dvs (SpP K pre post) :=
  cal_P Df S hl fun f cdv A outer s H E hr ng ds hp => ⟨T.t, (hb f cdv A outer s H E hr ng).elim fun t h => h.2 ▸ h.1, fun p => (T.ok (hw ds hp)).more (by omega)⟩
theorem cal_WG (T : WS K L2.E0) (Df : Def K mg x st ps dvs) (S : FnScope N ps (defScope st)) (hl : ∀ ds, pre ds → ds.length + 1 = ps.length)
    (hb : ∀ (f : Addr) (cdv : Value) (A : Around) (outer : List Env) (s : Shared) (H : Hp) (E : XK), Room k (A.deeper (envOfC x (defScope st) s.heap.objs.size f cdv)) → NoG (A.deeper (envOfC x (defScope st) s.heap.objs.size f cdv)) →
      ∃ t, PSs (cxOf CX0 P w K mg base N x (defScope st) f cdv A outer s H E).nox (defBody st) t ∧ t = T.t) (hm : T.m ≤ m) (hw : ∀ ds, pre ds → T.w noX (G1 N ds) (retW (post ds))) : Cal P w K mg base x (k + 1) ps dvs (SpG K m pre post) :=
  cal_G Df S hl fun f cdv A outer s H E hr ng ds hp => ⟨T.t, (hb f cdv A outer s H E hr ng).elim fun t h => h.2 ▸ h.1, fun a cc => (T.ok (hw ds hp)).more hm⟩
end
end DL
set_option maxRecDepth 100000
set_option maxHeartbeats 4000000
/-! DLs: the rows by which a term's promise is opened. -/
namespace DL
open PySem L2 PyProof.Rows
variable [Tbl]
section
variable {K : PySem.W.Frag} {E : XK} {χ : Xq} {Γ : List Sk} {φ : D → Prop} {ψ : Bool → Prop} {ξ : List D → Prop} {W : Wh} {Φ : D → List Sk → Prop} {a b d : WE K E} {t u : WT K E} {x y : D}
/-- the data at a slot -/
def DatAt (Γ : List Sk) (i : Nat) (φ : D → Prop) : Prop := match Γ[i]? with | some (.dat d) => φ d | _ => False
def OwnAt (Γ : List Sk) (i : Nat) (φ : List D → Prop) : Prop := match Γ[i]? with | some (.own d) => φ d | _ => False
@[simp] theorem datAt_0 {Γ : List Sk} : DatAt (.dat x :: Γ) 0 φ = φ x := rfl
@[simp] theorem datAt_s {s : Sk} {Γ : List Sk} {i : Nat} : DatAt (s :: Γ) (i + 1) φ = DatAt Γ i φ := rfl
@[simp] theorem ownAt_0 {Γ : List Sk} {ds : List D} : OwnAt (.own ds :: Γ) 0 ξ = ξ ds := rfl
@[simp] theorem ownAt_s {s : Sk} {Γ : List Sk} {i : Nat} : OwnAt (s :: Γ) (i + 1) ξ = OwnAt Γ i ξ := rfl
def PenIs (Γ : List Sk) (i : Nat) : Prop := Γ[i]? = some .pen
@[simp] theorem penIs_0 {Γ : List Sk} : PenIs (.pen :: Γ) 0 = True := by simp [PenIs]
@[simp] theorem penIs_s {s : Sk} {Γ : List Sk} {i : Nat} : PenIs (s :: Γ) (i + 1) = PenIs Γ i := by simp [PenIs]
theorem w_var {i : Nat} : (WE.var (K := K) (E := E) i).w χ Γ φ = DatAt Γ i φ := rfl
theorem w_int {i : Int} : (WE.int (K := K) (E := E) i).w χ Γ φ = φ (.int i) := rfl
theorem w_bl {i : Bool} : (WE.bl (K := K) (E := E) i).w χ Γ φ = φ (.bl i) := rfl
theorem w_str {i : Str} : (WE.str (K := K) (E := E) i).w χ Γ φ = φ (.str i) := rfl
theorem w_non : (WE.non (K := K) (E := E)).w χ Γ φ = φ .non := rfl
theorem w_ktup {A : Addr} {xs : List V} {ds : List D} {h : ∀ H, SqT K H A xs} {r : ∀ H, Reps K H xs ds} : (WE.ktup (E := E) ds h r).w χ Γ φ = φ (.tup ds) := rfl
theorem w_op {o : O2 K} : (WE.op o a b).w χ Γ φ = a.w χ Γ fun x => b.w χ Γ fun y => o.w x y φ := rfl
theorem w_neg : (WE.neg a).w χ Γ φ = a.w χ Γ fun d => ∃ i, d = .int i ∧ φ (.int (-i)) := rfl
theorem w_chain {f g : Int → Int → Bool} : (WE.chain f g a b d).w χ Γ φ = a.w χ Γ fun x => b.w χ Γ fun y => ∃ i j, x = .int i ∧ y = .int j ∧ (f i j = true → d.w χ Γ fun z => ∃ k, z = .int k ∧ φ (.bl (g j k))) ∧ (f i j = false → φ (.bl false)) := rfl
theorem w_nil : (WA.nil (K := K) (E := E)).w χ Γ ξ = ξ [] := rfl
theorem w_cons {r : WA K E} : (WA.cons a r).w χ Γ ξ = a.w χ Γ fun d => r.w χ Γ fun ds => ξ (d :: ds) := rfl
theorem w_tup {r : WA K E} : (WE.tup r).w χ Γ φ = r.w χ Γ fun ds => ds.length ≤ 1000 ∧ φ (.tup ds) := rfl
theorem w_lst {r : WA K E} : (WE.lst r).w χ Γ φ = r.w χ Γ fun ds => ds.length ≤ 1000 ∧ φ (.lst ds) := rfl
theorem w_tst : (WT.tst a).w χ Γ ψ = a.w χ Γ fun d => ∃ b, d = .bl b ∧ ψ b := rfl
theorem w_tb : (WT.b a).w χ Γ ψ = a.w χ Γ fun d => ∃ b, d = .bl b ∧ ψ b := rfl
theorem w_not : (WT.not t).w χ Γ ψ = t.w χ Γ fun b => ψ (!b) := rfl
theorem w_yes : (WT.yes (K := K) (E := E)).w χ Γ ψ = ψ true := rfl
theorem w_and : (WT.and t u).w χ Γ ψ = t.w χ Γ fun k => (k = true → u.w χ Γ ψ) ∧ (k = false → ψ false) := rfl
theorem w_or : (WT.or t u).w χ Γ ψ = t.w χ Γ fun k => (k = false → u.w χ Γ ψ) ∧ (k = true → ψ true) := rfl
theorem w_andV : (WE.andV a b).w χ Γ φ = a.w χ Γ fun d => ∃ k, d = .bl k ∧ (k = true → b.w χ Γ φ) ∧ (k = false → φ (.bl false)) := rfl
theorem w_orV : (WE.orV a b).w χ Γ φ = a.w χ Γ fun d => ∃ k, d = .bl k ∧ (k = false → b.w χ Γ φ) ∧ (k = true → φ (.bl true)) := rfl
theorem w_notV : (WE.notV a).w χ Γ φ = a.w χ Γ fun d => ∃ k, d = .bl k ∧ φ (.bl (!k)) := rfl
theorem w_ite : (WE.ite t a b).w χ Γ φ = t.w χ Γ fun k => (k = true → a.w χ Γ φ) ∧ (k = false → b.w χ Γ φ) := rfl
theorem w_none {ω : Option Int → Prop} : (WO.none (K := K) (E := E)).w χ Γ ω = ω none := rfl
theorem w_some {ω : Option Int → Prop} : (WO.some a).w χ Γ ω = a.w χ Γ fun d => ∃ i, d = .int i ∧ ω (some i) := rfl
theorem w_sl {lo hi : WO K E} : (WE.sl a lo hi).w χ Γ φ = a.w χ Γ fun d => lo.w χ Γ fun l => hi.w χ Γ fun h => d.seq = true ∧ φ (d.cut l h) := rfl
theorem w_cb {o : ON K} {r : WA K E} : (WE.cb o r).w χ Γ φ = r.w χ Γ fun ds => o.w ds φ := rfl
theorem w_isi {T : String} {h : T ∈ isiTys} : (WE.isi T a h).w χ Γ φ = a.w χ Γ fun d => d.builtin = true ∧ φ (.bl (isiB d T)) := rfl
theorem w_isi2 {T U : String} {h : T ∈ isiTys} {h2 : U ∈ isiTys} : (WE.isi2 T U a h h2).w χ Γ φ = a.w χ Γ fun d => d.builtin = true ∧ φ (.bl (isiB d T || isiB d U)) := rfl
theorem w_call {pre : List D → Prop} {post : List D → D → Prop} {r : WA K E} : (WE.call pre post r).w χ Γ φ = r.w χ Γ fun ds => pre ds ∧ ∀ d, post ds d → φ d := rfl
theorem w_callD {dvs : List V} {des : List D} {pre : List D → Prop} {post : List D → D → Prop} {hd : ∀ H, Reps K H dvs des} {r : WA K E} : (WE.callD (des := des) pre post hd r).w χ Γ φ = r.w χ Γ fun ds => pre (ds ++ des) ∧ ∀ d, post (ds ++ des) d → φ d := rfl
theorem w_callX {pre : List D → Prop} {post : List D → D → Prop} {χ' : List D → Xq} {r : WA K E} : (WE.callX pre post χ' r).w χ Γ φ = r.w χ Γ fun ds => pre ds ∧ (∀ d, post ds d → φ d) ∧ ∀ C fs, χ' ds C fs → χ C fs := rfl
theorem w_callG {k : Nat} {pre : List D → Prop} {post : List D → D → Prop} {i : Nat} {r : WA K E} : (WE.callG k pre post i r).w χ Γ φ = (PenIs Γ i ∧ r.w χ Γ fun ds => pre ds ∧ ∀ d, post ds d → φ d) := rfl
theorem w_split : (WE.split a b).w χ Γ φ = a.w χ Γ fun x => ∃ z, x = .str z ∧ b.w χ Γ fun y => ∃ u, y = .str u ∧ (u.length == 0) = false ∧ z.length ≤ 1000000 ∧ φ (.lst ((Txt.split z u).map .str)) := rfl
def GetD (x y : D) (φ : D → Prop) : Prop := match x with | .dct ks ds => ∃ j d, y = keyD j ∧ valD ks ds j = some d ∧ φ d | _ => False
theorem w_dget : (WE.dget a b).w χ Γ φ = a.w χ Γ fun x => b.w χ Γ fun y => GetD x y φ := rfl
theorem getD_str {ks : List Key} {ds : List D} {s : Str} {d : D} (h : valD ks ds (.inr s) = some d) (f : φ d) : GetD (.dct ks ds) (.str s) φ := ⟨.inr s, d, rfl, h, f⟩
theorem w_dnil : (WD.nil (K := K) (E := E)).w χ Γ ξ = ξ [] := rfl
theorem w_dcons {k : Str} {r : WD K E} : (WD.cons k a r).w χ Γ ξ = a.w χ Γ fun d => r.w χ Γ fun ds => ξ (d :: ds) := rfl
theorem ks_nil : (WD.nil (K := K) (E := E)).ks = [] := rfl
theorem ks_cons {k : Str} {r : WD K E} : (WD.cons k a r).ks = .inr k :: r.ks := rfl
theorem w_disp {r : WD K E} {hn : r.ks.Nodup} {hl : r.ks.length ≤ 15} : (WE.disp r hn hl).w χ Γ φ = r.w χ Γ fun ds => φ (.dct r.ks ds) := rfl
theorem w_seqI : (WI.seq a).w χ Γ ξ = a.w χ Γ fun d => ∃ ds, itemsOf d = some ds ∧ ξ ds := rfl
theorem w_rng1 {r : WA K E} : (WI.rng1 r).w χ Γ ξ = r.w χ Γ fun ds => ∃ n, ds = [.int n] ∧ (-(2 ^ 62) ≤ n ∧ n < 2 ^ 62) ∧ ξ (rngD 0 n.toNat) := rfl
theorem w_rng2 {r : WA K E} : (WI.rng2 r).w χ Γ ξ = r.w χ Γ fun ds => ∃ i n, ds = [.int i, .int n] ∧ (-(2 ^ 62) ≤ i ∧ i < 2 ^ 62 ∧ -(2 ^ 62) ≤ n ∧ n < 2 ^ 62) ∧ ξ (rngD i (n - i).toNat) := rfl
theorem w_enum {r : WA K E} : (WI.enum r).w χ Γ ξ = r.w χ Γ fun as => ∃ ds, as = [.lst ds] ∧ ξ (enumD ds) := rfl
theorem w_zip {r : WA K E} : (WI.zip r).w χ Γ ξ = r.w χ Γ fun as => ∃ ds es, (as = [.lst ds, .lst es] ∨ as = [.tup ds, .tup es]) ∧ ξ (zipD ds es) := rfl
theorem w_lc {wi : WI K E} {g : WG K} {L : Nat} {hz : L < 1000000} : (WE.lc wi g t a L hz).w χ Γ φ = wi.w χ Γ fun ds => LcP g t a χ Γ L ds φ := rfl
theorem w_borrow {i : Nat} : (WE.borrow i a).w χ Γ φ = OwnAt Γ i fun ds => a.w noX (Γ.set i (.dat (.lst ds))) fun d => scalar d = true ∧ φ d := rfl
theorem w_up : (WM.up a).w χ Γ Φ = a.w χ Γ fun d => Φ d Γ := rfl
theorem w_popAt {i : Nat} : (WM.popAt i a).w χ Γ Φ = OwnAt Γ i fun ds => a.w χ Γ fun d => ∃ (k : Nat) (x : D), d = .int (k : Int) ∧ ds[k]? = some x ∧ k < 1000000 ∧ Φ x (Γ.set i (.own (ds.eraseIdx k))) := rfl
theorem w_next : (WS.next (K := K) (E := E)).w χ Γ W = W.N Γ := rfl
theorem w_brk : (WS.brk (K := K) (E := E)).w χ Γ W = W.B Γ := rfl
theorem w_cont : (WS.cont (K := K) (E := E)).w χ Γ W = W.C Γ := rfl
theorem w_seq {p q : WS K E} : (WS.seq p q).w χ Γ W = p.w χ Γ { N := fun G => q.w χ G W, R := W.R, B := W.B, C := W.C } := rfl
theorem w_ret {e : WM K E} : (WS.ret e).w χ Γ W = e.w χ Γ fun d _ => W.R d := rfl
theorem w_retN : (WS.retN (K := K) (E := E)).w χ Γ W = W.R .non := rfl
theorem w_asg {j : Nat} {e : WM K E} : (WS.asg j e).w χ Γ W = e.w χ Γ fun d G => W.N (G.set j (.dat d)) := rfl
theorem w_asgT {g : WG K} : (WS.asgT g a).w χ Γ W = a.w χ Γ fun d => ∃ l, g.ps d = some l ∧ W.N (setD Γ l) := rfl
theorem w_asgOwn {j : Nat} {r : WA K E} : (WS.asgOwn j r).w χ Γ W = r.w χ Γ fun ds => ds.length ≤ 1000 ∧ W.N (Γ.set j (.own ds)) := rfl
theorem w_drop {e : WM K E} : (WS.drop e).w χ Γ W = e.w χ Γ fun _ G => W.N G := rfl
theorem w_ifS {p q : WS K E} : (WS.ifS t p q).w χ Γ W = t.w χ Γ fun k => (k = true → p.w χ Γ W) ∧ (k = false → q.w χ Γ W) := rfl
theorem w_frzO {i : Nat} {p : WS K E} {ds : List D} (h : OwnAt Γ i (· = ds)) : (WS.frz i p).w χ Γ W = p.w χ (Γ.set i (.dat (.lst ds))) W := by
  unfold OwnAt at h
  split at h
  · rename_i e
    subst h
    show (match Γ[i]? with | some (.own ds) => p.w χ (Γ.set i (.dat (.lst ds))) W | _ => p.w χ Γ W) = _
    rw [e]
  · exact h.elim
def FrzAt (Γ : List Sk) (i : Nat) (k : List Sk → Prop) : Prop := match Γ[i]? with | some (.own ds) => k (Γ.set i (.dat (.lst ds))) | _ => k Γ
theorem w_frz {i : Nat} {p : WS K E} : (WS.frz i p).w χ Γ W = FrzAt Γ i fun G => p.w χ G W := rfl
theorem frzAt_0 {k : List Sk → Prop} {ds : List D} : FrzAt (.own ds :: Γ) 0 k = k (.dat (.lst ds) :: Γ) := rfl
theorem frzAt_d {k : List Sk → Prop} {d : D} : FrzAt (.dat d :: Γ) 0 k = k (.dat d :: Γ) := rfl
theorem frzAt_u {k : List Sk → Prop} : FrzAt (.un :: Γ) 0 k = k (.un :: Γ) := rfl
theorem frzAt_s {k : List Sk → Prop} {s : Sk} {i : Nat} : FrzAt (s :: Γ) (i + 1) k = FrzAt Γ i fun G => k (s :: G) := by
  unfold FrzAt
  rw [List.getElem?_cons_succ]
  cases h : Γ[i]? with
  | none => rfl
  | some q => cases q <;> rfl
theorem w_append {i : Nat} {e : WM K E} : (WS.append i e).w χ Γ W = ((∃ ds, Γ[i]? = some (.own ds)) ∧ e.w χ Γ fun d G => OwnAt G i fun ds => ds.length < 1000000 ∧ W.N (G.set i (.own (ds ++ [d])))) := rfl
theorem w_forS {wi : WI K E} {g : WG K} {p : WS K E} {L : Nat} : (WS.forS wi g p L).w χ Γ W = wi.w χ Γ fun ds => ForP g p χ Γ L W ds := rfl
theorem w_par {i j : Nat} : (WS.par i j a b).w χ Γ W = a.w χ Γ fun x => b.w χ Γ fun y => W.N ((Γ.set i (.dat x)).set j (.dat y)) := rfl
theorem w_parLE {i j : Nat} : (WS.parLE i j a).w χ Γ W = a.w χ Γ fun x => ∃ ds, x.its = some ds ∧ W.N ((Γ.set i (.own ds)).set j (.own [])) := rfl
/-! operations -/
section
variable {i j : Int} {s z : Str} {ds es : List D} {g : Int → Int → Int} {f : Int → Int → Bool} {C : Int → Int → Prop}
theorem q_int : (O2.int (K := K) g).w (.int i) (.int j) φ = φ (.int (g i j)) := rfl
theorem q_cmp : (O2.cmp (K := K) f).w (.int i) (.int j) φ = φ (.bl (f i j)) := rfl
theorem q_intC : (O2.intC (K := K) C g).w (.int i) (.int j) φ = (C i j ∧ φ (.int (g i j))) := rfl
theorem q_addI : (O2.add (K := K)).w (.int i) (.int j) φ = φ (.int (i + j)) := rfl
theorem q_addS : (O2.add (K := K)).w (.str s) (.str z) φ = (s.length + z.length ≤ 1000000 ∧ φ (.str (s ++ z))) := rfl
theorem q_addT : (O2.add (K := K)).w (.tup ds) (.tup es) φ = (ds.length + es.length ≤ 1000000 ∧ φ (.tup (ds ++ es))) := rfl
theorem q_addL : (O2.add (K := K)).w (.lst ds) (.lst es) φ = (ds.length + es.length ≤ 1000000 ∧ φ (.lst (ds ++ es))) := rfl
theorem q_mulI : (O2.mul (K := K)).w (.int i) (.int j) φ = (CMul i j ∧ φ (.int (i * j))) := rfl
theorem q_mulS : (O2.mul (K := K)).w (.str s) (.int j) φ = ((0 ≤ j ∧ j ≤ 1000 ∧ s.length ≤ 1000) ∧ φ (.str (Txt.mul s j))) := rfl
theorem q_mulL : (O2.mul (K := K)).w (.lst ds) (.int j) φ = ((0 ≤ j ∧ j ≤ 1000 ∧ ds.length ≤ 1000) ∧ φ (.lst (List.replicate j.toNat ds).flatten)) := rfl
theorem q_eq : (O2.eq (K := K)).w x y φ = (x.ok = true ∧ y.ok = true ∧ φ (.bl (x.eqv y))) := rfl
theorem q_ne : (O2.ne (K := K)).w x y φ = (x.ok = true ∧ y.ok = true ∧ φ (.bl (!x.eqv y))) := rfl
theorem q_isN : (O2.isU (K := K)).w x .non φ = φ (.bl x.isNon) := rfl
theorem q_isB {k : Bool} : (O2.isU (K := K)).w x (.bl k) φ = φ (.bl (x.isBl k)) := rfl
theorem q_notN : (O2.notU (K := K)).w x .non φ = φ (.bl (!x.isNon)) := rfl
theorem q_inT : (O2.inn (K := K)).w x (.tup ds) φ = (x.flat = true ∧ ds.all D.flat = true ∧ φ (.bl (inD x ds))) := rfl
theorem q_inL : (O2.inn (K := K)).w x (.lst ds) φ = (x.flat = true ∧ ds.all D.flat = true ∧ φ (.bl (inD x ds))) := rfl
theorem q_inS : (O2.inn (K := K)).w x (.str z) φ = (∃ k, x.sign = some k ∧ φ (.bl (decide (k ∈ z.cps.toList)))) := rfl
theorem q_ninT : (O2.nin (K := K)).w x (.tup ds) φ = (x.flat = true ∧ ds.all D.flat = true ∧ φ (.bl (!inD x ds))) := rfl
theorem q_ninL : (O2.nin (K := K)).w x (.lst ds) φ = (x.flat = true ∧ ds.all D.flat = true ∧ φ (.bl (!inD x ds))) := rfl
theorem q_ninS : (O2.nin (K := K)).w x (.str z) φ = (∃ k, x.sign = some k ∧ φ (.bl (!decide (k ∈ z.cps.toList)))) := rfl
theorem q_ixL : (O2.ix (K := K)).w (.lst ds) (.int i) φ = (∃ d, atI ds i = some d ∧ φ d) := rfl
theorem q_ixT : (O2.ix (K := K)).w (.tup ds) (.int i) φ = (∃ d, atI ds i = some d ∧ φ d) := rfl
theorem q_ixS : (O2.ix (K := K)).w (.str z) (.int i) φ = (∃ k, atI z.cps.toList i = some k ∧ z.length ≤ 1000000 ∧ φ (.str ⟨#[k]⟩)) := rfl
theorem n_len : (ON.len (K := K)).w [x] φ = (∃ k : Nat, x.len = some k ∧ φ (.int (k : Int))) := rfl
theorem n_list : (ON.list (K := K)).w [x] φ = (∃ ds, x.its = some ds ∧ φ (.lst ds)) := rfl
theorem n_tuple : (ON.tuple (K := K)).w [x] φ = (∃ ds, x.its = some ds ∧ φ (.tup ds)) := rfl
theorem n_all : (ON.all (K := K)).w [.lst ds] φ = (ds.all D.isB = true ∧ φ (.bl (ds.all D.tt))) := rfl
theorem n_any : (ON.any (K := K)).w [.lst ds] φ = (ds.all D.isB = true ∧ φ (.bl (ds.any D.tt))) := rfl
theorem n_sum : (ON.sum (K := K)).w [.lst ds] φ = (ds.all D.isI = true ∧ φ (.int (ds.map D.toI).sum)) := rfl
theorem n_sortedS : (ON.sortedS (K := K)).w [.lst ds] φ = (ds.all D.isS = true ∧ ds.length < 64 ∧ ∀ ys : List Str, ys.Perm (ds.map D.toS) → PyProof.Rows.sortedS ys = true → φ (.lst (ys.map D.str))) := rfl
theorem n_min2 : (ON.min2 (K := K)).w [.int i, .int j] φ = φ (.int (if j < i then j else i)) := rfl
theorem n_max2 : (ON.max2 (K := K)).w [.int i, .int j] φ = φ (.int (if j > i then j else i)) := rfl
theorem n_int1 : (ON.int1 (K := K)).w [.int i] φ = φ (.int i) := rfl
theorem n_strI : (ON.strI (K := K)).w [.int i] φ = (i.natAbs.log2 < 1920 ∧ φ (.str (toString i))) := rfl
theorem n_repr : (ON.repr (K := K)).w [x] φ = (GD 64 16000000 x ∧ φ (.str x.py.shown)) := rfl
end
theorem g_name {i : Nat} : (WG.name (K := K) i).ps x = some [(i, x)] := rfl
/-! comprehensions, loops -/
theorem LcP.map {g : WG K} {L : Nat} {ds : List D} (f : D → D) (hl : ds.length ≤ L) (h : ∀ d ∈ ds, ∃ ps, g.ps d = some ps ∧ a.w χ (setD (wipeG Γ g.is) ps) (· = f d)) (k : φ (.lst (ds.map f))) : LcP g WT.yes a χ Γ L ds φ :=
  ⟨hl, fun d k => k = true, fun d e => e = f d, fun d hd => by obtain ⟨ps, h1, h2⟩ := h d hd; exact ⟨ps, h1, rfl, fun _ => h2⟩, fun es c => by
    rw [c.exact (b := fun _ => true) (f := f) (fun _ _ z => z) fun _ _ z => z, List.filter_eq_self.mpr fun _ _ => rfl]; exact k⟩
theorem LcP.filt {g : WG K} {L : Nat} {ds : List D} (b : D → Bool) (f : D → D) (hl : ds.length ≤ L) (h : ∀ d ∈ ds, ∃ ps, g.ps d = some ps ∧ t.w χ (setD (wipeG Γ g.is) ps) (· = b d) ∧ (b d = true → a.w χ (setD (wipeG Γ g.is) ps) (· = f d))) (k : φ (.lst ((ds.filter b).map f))) : LcP g t a χ Γ L ds φ :=
  ⟨hl, fun d k => k = b d, fun d e => e = f d, fun d hd => by
    obtain ⟨ps, h1, h2, h3⟩ := h d hd
    exact ⟨ps, h1, h2, fun z => h3 z.symm⟩, fun es c => by
    rw [c.exact (b := b) (f := f) (fun _ _ z => z) fun _ _ z => z]; exact k⟩
/-- each one is of a kind -/
theorem LcP.each {g : WG K} {L : Nat} {ds : List D} (F : D → Prop) (hl : ds.length ≤ L) (h : ∀ d ∈ ds, ∃ ps, g.ps d = some ps ∧ a.w χ (setD (wipeG Γ g.is) ps) F) (k : ∀ es : List D, es.length = ds.length → (∀ e ∈ es, F e) → φ (.lst es)) : LcP g WT.yes a χ Γ L ds φ :=
  ⟨hl, fun d k => k = true, fun d e => F e, fun d hd => by obtain ⟨ps, h1, h2⟩ := h d hd; exact ⟨ps, h1, rfl, fun _ => h2⟩, fun es c => k es (c.len_eq fun _ z => by cases z) (c.all fun _ _ z => z)⟩
theorem ForP.of {g : WG K} {p : WS K E} {L : Nat} {ds : List D} (Iv : Nat → List Sk → Prop) (hl : ds.length ≤ L) (h0 : Iv 0 Γ) (hs : ∀ i d Γ', ds[i]? = some d → Iv i Γ' → ∃ ps, g.ps d = some ps ∧ p.w χ (setD Γ' ps) { N := Iv (i + 1), C := Iv (i + 1), B := W.N, R := W.R }) (hd : ∀ Γ', Iv ds.length Γ' → W.N Γ') : ForP g p χ Γ L W ds := ⟨hl, Iv, h0, hs, hd⟩
end
theorem un66 {k : Nat} {A : Around} (r : Room k A) : A.units + 66 < cLine := by have := r.un; omega
/-! data that is known -/
def D.isT : D → Bool
  | .tup _ => true | _ => false
def D.isL : D → Bool
  | .lst _ => true | _ => false
theorem isi_str {d : D} : isiB d "str" = d.isS := by cases d <;> rfl
theorem isi_int {d : D} : isiB d "int" = (d.isI || d.isB) := by cases d <;> rfl
theorem isi_bool {d : D} : isiB d "bool" = d.isB := by cases d <;> rfl
theorem isi_tuple {d : D} : isiB d "tuple" = d.isT := by cases d <;> rfl
theorem isi_list {d : D} : isiB d "list" = d.isL := by cases d <;> rfl
theorem ok_int {s : Int} : (D.int s).ok = true := rfl
theorem ok_bl {s : Bool} : (D.bl s).ok = true := rfl
theorem ok_non : D.non.ok = true := rfl
theorem eqv_str {s z : Str} : (D.str s).eqv (.str z) = decide (s = z) := by
  show PyData.eqv (.str s) (.str z) = _
  unfold PyData.eqv; rfl
theorem eqv_int {s z : Int} : (D.int s).eqv (.int z) = decide (s = z) := by
  show PyData.eqv (.int s) (.int z) = _
  unfold PyData.eqv; rfl
theorem setD_nil {Γ : List Sk} : setD Γ [] = Γ := rfl
theorem setD_cons {Γ : List Sk} {i : Nat} {d : D} {l : List (Nat × D)} : setD Γ ((i, d) :: l) = setD (Γ.set i (.dat d)) l := rfl
@[simp] theorem isS_non : D.non.isS = false := rfl
@[simp] theorem isS_bl {b : Bool} : (D.bl b).isS = false := rfl
@[simp] theorem isS_int {i : Int} : (D.int i).isS = false := rfl
@[simp] theorem isS_str {s : Str} : (D.str s).isS = true := rfl
@[simp] theorem isS_lst {l : List D} : (D.lst l).isS = false := rfl
@[simp] theorem isS_tup {l : List D} : (D.tup l).isS = false := rfl
@[simp] theorem isS_dct {k : List Key} {l : List D} : (D.dct k l).isS = false := rfl
@[simp] theorem isS_obj {C : Addr} {n : List Str} {l : List D} : (D.obj C n l).isS = false := rfl
@[simp] theorem isS_exc {C x : Addr} {n : List Str} {l : List D} : (D.exc C x n l).isS = false := rfl
@[simp] theorem isS_err {C : Addr} {n : List Str} {l : List D} : (D.err C n l).isS = false := rfl
@[simp] theorem isS_dcf {k : List Key} {l : List D} : (D.dcf k l).isS = false := rfl
@[simp] theorem isS_dtf {k : List (List Key)} {l : List D} : (D.dtf k l).isS = false := rfl
@[simp] theorem isS_ptr {x : Addr} : (D.ptr x).isS = false := rfl
@[simp] theorem isI_non : D.non.isI = false := rfl
@[simp] theorem isI_bl {b : Bool} : (D.bl b).isI = false := rfl
@[simp] theorem isI_int {i : Int} : (D.int i).isI = true := rfl
@[simp] theorem isI_str {s : Str} : (D.str s).isI = false := rfl
@[simp] theorem isI_lst {l : List D} : (D.lst l).isI = false := rfl
@[simp] theorem isI_tup {l : List D} : (D.tup l).isI = false := rfl
@[simp] theorem isI_dct {k : List Key} {l : List D} : (D.dct k l).isI = false := rfl
@[simp] theorem isI_obj {C : Addr} {n : List Str} {l : List D} : (D.obj C n l).isI = false := rfl
@[simp] theorem isI_exc {C x : Addr} {n : List Str} {l : List D} : (D.exc C x n l).isI = false := rfl
@[simp] theorem isI_err {C : Addr} {n : List Str} {l : List D} : (D.err C n l).isI = false := rfl
@[simp] theorem isI_dcf {k : List Key} {l : List D} : (D.dcf k l).isI = false := rfl
@[simp] theorem isI_dtf {k : List (List Key)} {l : List D} : (D.dtf k l).isI = false := rfl
@[simp] theorem isI_ptr {x : Addr} : (D.ptr x).isI = false := rfl
@[simp] theorem isB_non : D.non.isB = false := rfl
@[simp] theorem isB_bl {b : Bool} : (D.bl b).isB = true := rfl
@[simp] theorem isB_int {i : Int} : (D.int i).isB = false := rfl
@[simp] theorem isB_str {s : Str} : (D.str s).isB = false := rfl
@[simp] theorem isB_lst {l : List D} : (D.lst l).isB = false := rfl
@[simp] theorem isB_tup {l : List D} : (D.tup l).isB = false := rfl
@[simp] theorem isB_dct {k : List Key} {l : List D} : (D.dct k l).isB = false := rfl
@[simp] theorem isB_obj {C : Addr} {n : List Str} {l : List D} : (D.obj C n l).isB = false := rfl
@[simp] theorem isB_exc {C x : Addr} {n : List Str} {l : List D} : (D.exc C x n l).isB = false := rfl
@[simp] theorem isB_err {C : Addr} {n : List Str} {l : List D} : (D.err C n l).isB = false := rfl
@[simp] theorem isB_dcf {k : List Key} {l : List D} : (D.dcf k l).isB = false := rfl
@[simp] theorem isB_dtf {k : List (List Key)} {l : List D} : (D.dtf k l).isB = false := rfl
@[simp] theorem isB_ptr {x : Addr} : (D.ptr x).isB = false := rfl
@[simp] theorem isT_non : D.non.isT = false := rfl
@[simp] theorem isT_bl {b : Bool} : (D.bl b).isT = false := rfl
@[simp] theorem isT_int {i : Int} : (D.int i).isT = false := rfl
@[simp] theorem isT_str {s : Str} : (D.str s).isT = false := rfl
@[simp] theorem isT_lst {l : List D} : (D.lst l).isT = false := rfl
@[simp] theorem isT_tup {l : List D} : (D.tup l).isT = true := rfl
@[simp] theorem isT_dct {k : List Key} {l : List D} : (D.dct k l).isT = false := rfl
@[simp] theorem isT_obj {C : Addr} {n : List Str} {l : List D} : (D.obj C n l).isT = false := rfl
@[simp] theorem isT_exc {C x : Addr} {n : List Str} {l : List D} : (D.exc C x n l).isT = false := rfl
@[simp] theorem isT_err {C : Addr} {n : List Str} {l : List D} : (D.err C n l).isT = false := rfl
@[simp] theorem isT_dcf {k : List Key} {l : List D} : (D.dcf k l).isT = false := rfl
@[simp] theorem isT_dtf {k : List (List Key)} {l : List D} : (D.dtf k l).isT = false := rfl
@[simp] theorem isT_ptr {x : Addr} : (D.ptr x).isT = false := rfl
@[simp] theorem isL_non : D.non.isL = false := rfl
@[simp] theorem isL_bl {b : Bool} : (D.bl b).isL = false := rfl
@[simp] theorem isL_int {i : Int} : (D.int i).isL = false := rfl
@[simp] theorem isL_str {s : Str} : (D.str s).isL = false := rfl
@[simp] theorem isL_lst {l : List D} : (D.lst l).isL = true := rfl
@[simp] theorem isL_tup {l : List D} : (D.tup l).isL = false := rfl
@[simp] theorem isL_dct {k : List Key} {l : List D} : (D.dct k l).isL = false := rfl
@[simp] theorem isL_obj {C : Addr} {n : List Str} {l : List D} : (D.obj C n l).isL = false := rfl
@[simp] theorem isL_exc {C x : Addr} {n : List Str} {l : List D} : (D.exc C x n l).isL = false := rfl
@[simp] theorem isL_err {C : Addr} {n : List Str} {l : List D} : (D.err C n l).isL = false := rfl
@[simp] theorem isL_dcf {k : List Key} {l : List D} : (D.dcf k l).isL = false := rfl
@[simp] theorem isL_dtf {k : List (List Key)} {l : List D} : (D.dtf k l).isL = false := rfl
@[simp] theorem isL_ptr {x : Addr} : (D.ptr x).isL = false := rfl
@[simp] theorem isNon_non : D.non.isNon = true := rfl
@[simp] theorem isNon_bl {b : Bool} : (D.bl b).isNon = false := rfl
@[simp] theorem isNon_int {i : Int} : (D.int i).isNon = false := rfl
@[simp] theorem isNon_str {s : Str} : (D.str s).isNon = false := rfl
@[simp] theorem isNon_lst {l : List D} : (D.lst l).isNon = false := rfl
@[simp] theorem isNon_tup {l : List D} : (D.tup l).isNon = false := rfl
@[simp] theorem isNon_dct {k : List Key} {l : List D} : (D.dct k l).isNon = false := rfl
@[simp] theorem isNon_obj {C : Addr} {n : List Str} {l : List D} : (D.obj C n l).isNon = false := rfl
@[simp] theorem isNon_exc {C x : Addr} {n : List Str} {l : List D} : (D.exc C x n l).isNon = false := rfl
@[simp] theorem isNon_err {C : Addr} {n : List Str} {l : List D} : (D.err C n l).isNon = false := rfl
@[simp] theorem isNon_dcf {k : List Key} {l : List D} : (D.dcf k l).isNon = false := rfl
@[simp] theorem isNon_dtf {k : List (List Key)} {l : List D} : (D.dtf k l).isNon = false := rfl
@[simp] theorem isNon_ptr {x : Addr} : (D.ptr x).isNon = false := rfl
@[simp] theorem isBl_non {q : Bool} : D.non.isBl q = false := rfl
@[simp] theorem isBl_int {i : Int} {q : Bool} : (D.int i).isBl q = false := rfl
@[simp] theorem isBl_str {s : Str} {q : Bool} : (D.str s).isBl q = false := rfl
@[simp] theorem isBl_lst {l : List D} {q : Bool} : (D.lst l).isBl q = false := rfl
@[simp] theorem isBl_tup {l : List D} {q : Bool} : (D.tup l).isBl q = false := rfl
@[simp] theorem isBl_dct {k : List Key} {l : List D} {q : Bool} : (D.dct k l).isBl q = false := rfl
@[simp] theorem isBl_obj {C : Addr} {n : List Str} {l : List D} {q : Bool} : (D.obj C n l).isBl q = false := rfl
@[simp] theorem isBl_exc {C x : Addr} {n : List Str} {l : List D} {q : Bool} : (D.exc C x n l).isBl q = false := rfl
@[simp] theorem isBl_err {C : Addr} {n : List Str} {l : List D} {q : Bool} : (D.err C n l).isBl q = false := rfl
@[simp] theorem isBl_dcf {k : List Key} {l : List D} {q : Bool} : (D.dcf k l).isBl q = false := rfl
@[simp] theorem isBl_dtf {k : List (List Key)} {l : List D} {q : Bool} : (D.dtf k l).isBl q = false := rfl
@[simp] theorem isBl_ptr {x : Addr} {q : Bool} : (D.ptr x).isBl q = false := rfl
@[simp] theorem isBl_bl {b k : Bool} : (D.bl b).isBl k = (b == k) := rfl
@[simp] theorem builtin_non : D.non.builtin = true := rfl
@[simp] theorem builtin_bl {b : Bool} : (D.bl b).builtin = true := rfl
@[simp] theorem builtin_int {i : Int} : (D.int i).builtin = true := rfl
@[simp] theorem builtin_str {s : Str} : (D.str s).builtin = true := rfl
@[simp] theorem builtin_lst {l : List D} : (D.lst l).builtin = true := rfl
@[simp] theorem builtin_tup {l : List D} : (D.tup l).builtin = true := rfl
@[simp] theorem builtin_dct {k : List Key} {l : List D} : (D.dct k l).builtin = true := rfl
@[simp] theorem builtin_obj {C : Addr} {n : List Str} {l : List D} : (D.obj C n l).builtin = false := rfl
@[simp] theorem builtin_exc {C x : Addr} {n : List Str} {l : List D} : (D.exc C x n l).builtin = false := rfl
@[simp] theorem builtin_err {C : Addr} {n : List Str} {l : List D} : (D.err C n l).builtin = false := rfl
@[simp] theorem builtin_dcf {k : List Key} {l : List D} : (D.dcf k l).builtin = false := rfl
@[simp] theorem builtin_dtf {k : List (List Key)} {l : List D} : (D.dtf k l).builtin = false := rfl
@[simp] theorem builtin_ptr {x : Addr} : (D.ptr x).builtin = false := rfl
@[simp] theorem len_tup {l : List D} : (D.tup l).len = some l.length := rfl
@[simp] theorem len_lst {l : List D} : (D.lst l).len = some l.length := rfl
theorem len_str {s : Str} (h : s.length ≤ 1000000) : (D.str s).len = some s.length := if_pos h
@[simp] theorem its_tup {l : List D} : (D.tup l).its = some l := rfl
@[simp] theorem its_lst {l : List D} : (D.lst l).its = some l := rfl
@[simp] theorem itemsOf_tup {l : List D} : itemsOf (D.tup l) = some l := rfl
@[simp] theorem itemsOf_lst {l : List D} : itemsOf (D.lst l) = some l := rfl
@[simp] theorem itemsOf_str {s : Str} : itemsOf (D.str s) = some (DL.signs s) := rfl
@[simp] theorem tt_bl {b : Bool} : (D.bl b).tt = b := rfl
@[simp] theorem toI_int {i : Int} : (D.int i).toI = i := rfl
@[simp] theorem toS_str {s : Str} : (D.str s).toS = s := rfl
@[simp] theorem signs_length {s : Str} : (DL.signs s).length = s.length := by unfold DL.signs; rw [List.length_map]; rfl
theorem mem_signs {d : D} {z : Str} (h : d ∈ DL.signs z) : ∃ k, k ∈ z.cps.toList ∧ d = .str ⟨#[k]⟩ := by
  unfold DL.signs at h
  obtain ⟨k, hk, e⟩ := List.mem_map.mp h
  exact ⟨k, hk, e.symm⟩
@[simp] theorem is_name {K : PySem.W.Frag} {i : Nat} : (WG.name (K := K) i).is = [i] := rfl
theorem atI_nat {α : Type} {l : List α} {i : Int} (h0 : 0 ≤ i) : atI l i = l[i.toNat]? := by
  unfold atI
  cases h : ixN l.length i with
  | none =>
    unfold ixN at h
    rw [if_pos h0] at h
    split at h
    · cases h
    · rw [List.getElem?_eq_none (by omega)]; rfl
  | some j =>
    unfold ixN at h
    rw [if_pos h0] at h
    split at h
    · cases h; rfl
    · cases h
@[simp] theorem atI_0 {α : Type} {l : List α} : atI l 0 = l[0]? := atI_nat (by decide)
@[simp] theorem atI_1 {α : Type} {l : List α} : atI l 1 = l[1]? := atI_nat (by decide)
@[simp] theorem atI_2 {α : Type} {l : List α} : atI l 2 = l[2]? := atI_nat (by decide)
@[simp] theorem atI_3 {α : Type} {l : List α} : atI l 3 = l[3]? := atI_nat (by decide)
@[simp] theorem atI_neg1 {α : Type} {l : List α} {a : α} : atI (l ++ [a]) (-1) = some a := by
  unfold atI ixN
  rw [if_neg (by decide), if_pos (by simp; omega)]
  have e : ((-1 : Int) + ((l ++ [a]).length : Int)).toNat = l.length := by simp; omega
  show (l ++ [a])[((-1 : Int) + ((l ++ [a]).length : Int)).toNat]? = some a
  rw [e]; simp
theorem cutD_from {ds : List D} {n : Nat} : cutD ds (some (n : Int)) none = ds.drop n := by
  unfold cutD
  rw [HT.sIx_nat, HT.sIx_none]
  rw [List.take_of_length_le (by rw [List.length_drop]; omega)]
  by_cases h : n ≤ ds.length
  · rw [Nat.min_eq_left h]
  · rw [Nat.min_eq_right (by omega), List.drop_length, List.drop_of_length_le (by omega)]
theorem cutD_to {ds : List D} {n : Nat} : cutD ds none (some (n : Int)) = ds.take n := by
  unfold cutD
  rw [HT.sIx_nat, HT.sIx_none, List.drop_zero, Nat.sub_zero]
  by_cases h : n ≤ ds.length
  · rw [Nat.min_eq_left h]
  · rw [Nat.min_eq_right (by omega), List.take_length, List.take_of_length_le (by omega)]
theorem cutD_mid {ds : List D} {n m : Nat} : cutD ds (some (n : Int)) (some (m : Int)) = (ds.take m).drop n := by
  unfold cutD
  rw [HT.sIx_nat, HT.sIx_nat]
  apply List.ext_getElem?
  intro i
  simp [List.getElem?_take, List.getElem?_drop]
  by_cases h1 : n + i < ds.length
  · by_cases h2 : n + i < m
    · rw [if_pos (by omega), if_pos (by omega), Nat.min_eq_left (by omega)]
    · rw [if_neg (by omega), if_neg (by omega)]
  · have e : ds[n + i]? = none := List.getElem?_eq_none (by omega)
    have e2 : ds[min n ds.length + i]? = none := by
      by_cases h : n ≤ ds.length
      · rw [Nat.min_eq_left h]; exact e
      · rw [Nat.min_eq_right (by omega)]; exact List.getElem?_eq_none (by omega)
    rw [e, e2]; simp
@[simp] theorem cutD_1 {ds : List D} : cutD ds (some 1) none = ds.drop 1 := cutD_from (n := 1)
@[simp] theorem cutD_2 {ds : List D} : cutD ds (some 2) none = ds.drop 2 := cutD_from (n := 2)
@[simp] theorem cutD_t1 {ds : List D} : cutD ds none (some 1) = ds.take 1 := cutD_to (n := 1)
@[simp] theorem cutD_t2 {ds : List D} : cutD ds none (some 2) = ds.take 2 := cutD_to (n := 2)
@[simp] theorem cutD_t3 {ds : List D} : cutD ds none (some 3) = ds.take 3 := cutD_to (n := 3)
@[simp] theorem cutD_13 {ds : List D} : cutD ds (some 1) (some 3) = (ds.take 3).drop 1 := cutD_mid (n := 1) (m := 3)
@[simp] theorem flat_str {s : Str} : (D.str s).flat = true := rfl
@[simp] theorem flat_int {s : Int} : (D.int s).flat = true := rfl
theorem inD1 {z a : Str} : inD (.str z) [.str a] = decide (z = a) := by
  simp only [inD, inV, D.v, eqV, List.map, List.any, Bool.or_false]
  rw [Bool.eq_iff_iff]; simp only [beq_iff_eq, decide_eq_true_eq]; exact ⟨Eq.symm, Eq.symm⟩
theorem inD_cons {z a : Str} {ds : List D} : inD (.str z) (.str a :: ds) = (decide (z = a) || inD (.str z) ds) := by
  simp only [inD, inV, D.v, eqV, List.map, List.any]
  congr 1
  rw [Bool.eq_iff_iff]; simp only [beq_iff_eq, decide_eq_true_eq]; exact ⟨Eq.symm, Eq.symm⟩
theorem inD_nil {x : D} : inD x [] = false := rfl
theorem okL {l : List D} {n : Nat} (h : ∀ d ∈ l, GD 63 n d) : (D.lst l).ok = true := (GDs.all h).lst.ok
theorem okT {l : List D} {n : Nat} (h : ∀ d ∈ l, GD 63 n d) : (D.tup l).ok = true := (GDs.all h).tup.ok
theorem ok_nil : (D.lst []).ok = true := okL (n := 0) fun _ h => nomatch h
theorem eqv_nil {l : List D} : (D.lst l).eqv (.lst []) = l.isEmpty := by
  show PyData.eqv (.list (D.pys l)) (.list (D.pys [])) = _
  unfold PyData.eqv
  cases l with
  | nil => rfl
  | cons d l => rfl
theorem sign_gd {z : Str} {c k n : Nat} (h : GD k n (.str z)) (hc : c ∈ z.cps.toList) : GD 63 12 (.str ⟨#[c]⟩) := by
  refine .str ?_ (by show 10 * 1 + 2 ≤ 12; decide)
  have e := h.strOk
  unfold PyData.strOk at e ⊢
  rw [← Array.all_toList, List.all_eq_true] at e
  simp only [List.all_toArray, List.all_cons, List.all_nil, Bool.and_true]
  exact e c hc
theorem inD_int {i a : Int} {ds : List D} : inD (.int i) (.int a :: ds) = (decide (i = a) || inD (.int i) ds) := by
  simp only [inD, inV, D.v, eqV, List.map, List.any]
  congr 1
  rw [Bool.eq_iff_iff]; simp only [beq_iff_eq, decide_eq_true_eq]; exact ⟨Eq.symm, Eq.symm⟩
theorem filter_empty {α β : Type} {l : List α} {b : α → Bool} {f : α → β} : ((l.filter b).map f).isEmpty = l.all fun a => !b a := by
  induction l with
  | nil => rfl
  | cons a l ih =>
    cases h : b a with
    | true => simp [h]
    | false => simp only [List.filter_cons, h, List.all_cons, Bool.not_false, Bool.true_and]; exact ih
theorem strOk_sub {x y : Str} (h : ∀ c ∈ x.cps.toList, c ∈ y.cps.toList) (k : PyData.strOk y = true) : PyData.strOk x = true := by
  unfold PyData.strOk at k ⊢
  rw [← Array.all_toList, List.all_eq_true] at k ⊢
  exact fun c hc => k c (h c hc)
theorem cut_tup {ds : List D} {lo hi : Option Int} : (D.tup ds).cut lo hi = .tup (cutD ds lo hi) := rfl
theorem cut_lst {ds : List D} {lo hi : Option Int} : (D.lst ds).cut lo hi = .lst (cutD ds lo hi) := rfl
theorem len_cps {z : Str} : z.cps.toList.length = z.length := rfl
section
variable {K : PySem.W.Frag} {E : XK} {χ : Xq} {Γ : List Sk}
theorem datAt_set {i : Nat} {s : Sk} {d : D} {φ : D → Prop} (h : i < Γ.length) (f : φ d) : DatAt ((Γ.set i s).set i (.dat d)) i φ := by
  unfold DatAt
  rw [List.getElem?_set_self (by simpa using h)]
  exact f
/-- [d for d in ds if not b(d)] == [] -/
theorem lc_not {i : Nat} {tt : WT K E} {ds : List D} {L n : Nat} (b : D → Bool) {B : Bool} (hl : ds.length ≤ L) (hi : i < Γ.length) (hg : ∀ d ∈ ds, GD 63 n d) (ht : ∀ d ∈ ds, tt.w χ (setD (wipeG Γ [i]) [(i, d)]) (· = !b d)) (hB : ds.all b = B) :
    LcP (WG.name i) tt (WE.var i) χ Γ L ds fun x => 0 ≤ 1000 ∧ x.ok = true ∧ (D.lst []).ok = true ∧ x.eqv (D.lst []) = B := by
  refine LcP.filt (fun d => !b d) id hl (fun d hd => ⟨_, rfl, ht d hd, fun _ => datAt_set hi rfl⟩) ⟨by decide, okL (n := n) fun d hd => ?_, ok_nil, ?_⟩
  · rw [List.map_id] at hd
    exact hg d (List.mem_filter.mp hd).1
  · rw [eqv_nil, filter_empty, ← hB]; simp
theorem lc_not2 {i : Nat} {tt : WT K E} {ds : List D} {L n : Nat} (b : D → Bool) {B : Bool} (hl : ds.length ≤ L) (hi : i < Γ.length) (hg : ∀ d ∈ ds, GD 63 n d) (ht : ∀ d ∈ ds, tt.w χ (setD (wipeG Γ [i]) [(i, d)]) (· = !b d)) (hB : ds.all b = B) :
    LcP (WG.name i) tt (WE.var i) χ Γ L ds fun x => x.ok = true ∧ (D.lst []).ok = true ∧ x.eqv (D.lst []) = B := by
  have h := lc_not (χ := χ) (Γ := Γ) (tt := tt) b hl hi hg ht hB
  obtain ⟨h1, T, F, h2, h3⟩ := h
  exact ⟨h1, T, F, h2, fun es c => (h3 es c).2⟩
end
theorem GV.it63 {ds : List D} (h : GV (.tup ds)) : ∀ d ∈ ds, GD 63 10000000 d := h.tups.mem
theorem GV.li63 {ds : List D} (h : GV (.lst ds)) : ∀ d ∈ ds, GD 63 10000000 d := h.lsts.mem
theorem its_len {d : D} {ds : List D} (h : d.its = some ds) : d.len = some ds.length := by
  cases d <;> first | (cases h; rfl) | cases h
theorem ix_its {K : PySem.W.Frag} {d : D} {ds : List D} {k : Int} {φ : D → Prop} (h : d.its = some ds) (k0 : 0 ≤ k) (k1 : k < (ds.length : Int)) (f : ∀ x ∈ ds, φ x) : (O2.ix (K := K)).w d (.int k) φ := by
  have e : ds[k.toNat]? = some (ds[k.toNat]'(by omega)) := List.getElem?_eq_getElem _
  cases d with
  | tup l => cases h; exact ⟨_, (atI_nat k0).trans e, f _ (List.getElem_mem _)⟩
  | lst l => cases h; exact ⟨_, (atI_nat k0).trans e, f _ (List.getElem_mem _)⟩
  | _ => cases h
theorem ix_strs {K : PySem.W.Frag} {z : Str} {k : Int} {φ : D → Prop} (hz : z.length ≤ 1000000) (k0 : 0 ≤ k) (k1 : k < (z.length : Int)) (f : ∀ c ∈ z.cps.toList, φ (.str ⟨#[c]⟩)) : (O2.ix (K := K)).w (.str z) (.int k) φ := by
  have hl : k.toNat < z.cps.toList.length := by rw [len_cps]; omega
  have e : z.cps.toList[k.toNat]? = some (z.cps.toList[k.toNat]'hl) := List.getElem?_eq_getElem _
  exact ⟨_, (atI_nat k0).trans e, hz, f _ (List.getElem_mem _)⟩
@[simp] theorem rngD_len {lo : Int} {n : Nat} : (rngD lo n).length = n := by simp [rngD]
theorem rngD_get {lo : Int} {n i : Nat} {d : D} (h : (rngD lo n)[i]? = some d) : i < n ∧ d = .int (lo + (i : Int)) := by
  unfold rngD at h
  rw [List.getElem?_map] at h
  cases e : (List.range n)[i]? with
  | none => rw [e] at h; cases h
  | some j =>
    rw [e] at h
    have := List.getElem?_eq_some_iff.mp e
    obtain ⟨h1, h2⟩ := this
    simp at h1 h2
    cases h
    exact ⟨h1, by rw [h2]⟩
theorem mem_rngD {lo : Int} {n : Nat} {d : D} (h : d ∈ rngD lo n) : ∃ i, i < n ∧ d = .int (lo + (i : Int)) := by
  unfold rngD at h
  obtain ⟨i, h1, h2⟩ := List.mem_map.mp h
  exact ⟨i, List.mem_range.mp h1, h2.symm⟩
theorem mem_erase {α : Type} {l : List α} {i : Nat} {x : α} (h : x ∈ l.eraseIdx i) : x ∈ l := List.mem_of_mem_eraseIdx h
/-! short texts -/
/-- a short text -/
def SO (n : Nat) (d : D) : Prop := ∃ z, d = .str z ∧ PyData.strOk z = true ∧ z.length ≤ n
theorem SO.gd {n k : Nat} {d : D} (h : SO n d) : GD k (10 * n + 2) d := by
  obtain ⟨z, rfl, h1, h2⟩ := h
  exact .str h1 (by omega)
theorem SO.mono {n m : Nat} {d : D} (h : SO n d) (e : n ≤ m) : SO m d := by
  obtain ⟨z, h0, h1, h2⟩ := h
  exact ⟨z, h0, h1, by omega⟩
theorem str_len_add {a b : Str} : (a ++ b).length = a.length + b.length := by
  show (a.cps ++ b.cps).size = _
  rw [Array.size_append]; rfl
theorem strOk_add {a b : Str} (h : PyData.strOk a = true) (k : PyData.strOk b = true) : PyData.strOk (a ++ b) = true := by
  unfold PyData.strOk at h k ⊢
  show (a.cps ++ b.cps).all _ = true
  rw [Array.all_append, h, k]; rfl
theorem SO.add {K : PySem.W.Frag} {n m : Nat} {a b : D} {φ : D → Prop} (h : SO n a) (k : SO m b) (f : ∀ r, SO (n + m) r → φ r) (hs : n + m ≤ 1000000 := by decide) : (O2.add (K := K)).w a b φ := by
  obtain ⟨z, rfl, h1, h2⟩ := h
  obtain ⟨y, rfl, k1, k2⟩ := k
  exact ⟨by omega, f _ ⟨_, rfl, strOk_add h1 k1, by rw [str_len_add]; omega⟩⟩
theorem SO.lit {z : Str} {n : Nat} (h : PyData.strOk z = true := by decide +kernel) (k : z.length ≤ n := by decide) : SO n (.str z) := ⟨z, rfl, h, k⟩
theorem SO.sgn {z : Str} {c : Nat} (h : PyData.strOk z = true) (hc : c ∈ z.cps.toList) : SO 1 (.str ⟨#[c]⟩) := by
  refine ⟨_, rfl, ?_, Nat.le_refl 1⟩
  unfold PyData.strOk at h ⊢
  rw [← Array.all_toList, List.all_eq_true] at h
  simp only [List.all_toArray, List.all_cons, List.all_nil, Bool.and_true]
  exact h c hc
theorem SO.cut {n : Nat} {a : D} {lo hi : Option Int} (h : SO n a) : SO n (a.cut lo hi) := by
  obtain ⟨z, rfl, h1, h2⟩ := h
  have e : (cutS z lo hi).cps.toList = (z.cps.toList.drop (HT.sIx z.length 0 lo)).take (HT.sIx z.length z.length hi - HT.sIx z.length 0 lo) := rfl
  refine ⟨cutS z lo hi, rfl, strOk_sub (fun c hc => ?_) h1, ?_⟩
  · rw [e] at hc
    exact List.mem_of_mem_drop (List.mem_of_mem_take hc)
  · have e2 : (cutS z lo hi).length = (cutS z lo hi).cps.toList.length := rfl
    rw [e2, e, List.length_take, List.length_drop, len_cps]
    omega
theorem gdI {k n : Nat} {i : Int} (h : -(2 ^ 120) < i ∧ i < 2 ^ 120) (b : 1930 ≤ n := by decide) : GD k n (.int i) := by
  refine .int ?_ b
  by_cases z : i.natAbs = 0
  · rw [z]; decide
  · have h2 : i.natAbs < 2 ^ 120 := by omega
    have := (Nat.log2_lt z).mpr h2
    omega
theorem gdT {k n k' n' : Nat} {ds : List D} (h : GDs k n ds) (a : k + 1 ≤ k' := by decide) (b : n + 3 ≤ n' := by decide) : GD k' n' (.tup ds) := h.tup.mono a b
theorem gdL {k n k' n' : Nat} {ds : List D} (h : GDs k n ds) (a : k + 1 ≤ k' := by decide) (b : n + 3 ≤ n' := by decide) : GD k' n' (.lst ds) := h.lst.mono a b
theorem gdS {k n : Nat} {z : Str} (h : PyData.strOk z = true := by decide +kernel) (b : 10 * z.length + 2 ≤ n := by decide) : GD k n (.str z) := .str h b
end DL
set_option maxRecDepth 100000
set_option maxHeartbeats 4000000
/-! DLe: errors: raised, caught, read. -/
namespace DL
open PySem L2 PyProof.Rows
variable [Tbl]
/-- a def of the text that may raise -/
structure CalX (P : Program) (w : World) (K : PySem.W.Frag) (mg : Str → Option Value) (base : Heap) (x : Str) (k : Nat) (ps : List Str) (dvs : List V) (sp : Sp) : Prop where
  ex : ∃ f fd ds, FnG P w K mg base (L2.CX P w) k f fd ps sp ∧ mg x = some (.ref f) ∧ PySem.W.keepIn K (.ref f) = true ∧ Binds K fd ps ds ∧ Vals dvs ds
section
variable {X : Cx} {CX : CXT} {k j : Nat} {f : Addr} {fd : FuncData} {ps : List Str} {sp : Sp} {x : Str} {p pos : Pos} {e : Expr} {es : List Expr} {t : TA} {ds : List Value} {dvs : List V} {W : WX} {E : L2.St → XK}
theorem rungS {pins : List (Addr × Obj)} {σ : L2.St} {H : Hp} {s : Shared} {Q : VK} {us : List Value} {vs : List V} (F : FnG X.prog X.w X.K X.mg X.base CX k f fd ps sp) (hr : Room k X.A) (ng : NoG X.A) (hb : Binds X.K fd ps ds) (hd : Vals dvs ds) (hx : PassesAt CX X σ (E σ))
    (I : L2.Inv X pins σ H s) (r : Vals vs us) (h : sp (vs ++ dvs) H Q (E σ)) : wpAny (model X.prog X.w) X.A (call (.ref f) us) (EP X pins σ Q) X.xe s := by
  have both := r.append hd
  have same : (us ++ ds).length = ps.length := both.length.symm.trans (F.len _ _ _ _ h)
  refine wpAny_call (codeAny_mono (F.run X.A hr ng X.stack s H ⟨us, []⟩ _ _ Q (E σ) I.env0 (hb s us I.kIn same) both h) fun res s' got => ?_)
  cases res with
  | error er => exact hx pins H s er s' I got
  | ok flow => cases flow with
    | ret u => exact I.after got
    | next => exact got.elim
    | brk => exact got.elim
    | cont => exact got.elim
theorem peg_calX (C : CalX X.prog X.w X.K X.mg X.base x j ps dvs sp) (hr : Room k X.A) (hj : j ≤ k) (ng : NoG X.A) (hg : Gl X x) (tk : Takes X W) (ha : PA X (e :: es) t)
    (h1 : (x == ("__debug__" : Str)) = false := by decide) (h2 : starEach (e :: es) X.env = (false, eval e X.env) :: starEach es X.env := by rfl) (h3 : (backTo pos (starEach es X.env)).any (·.1) = false := by rfl) : PE X (.Call (.Name x p) (e :: es) [] pos) (tCallSD sp dvs (L2.WE W) t) := by
  obtain ⟨f, fd, ds, F, hm, hk, hb, hd⟩ := C.ex
  refine ⟨fun pins s σ H Q I h => ?_⟩
  refine wpAny_Call_Name_kw (ld_glob I hg hm ?_ h1)
  refine PySem.W.callWith_K (h₀ := X.base) I.ok.mod.kin hk (thn (ha.run pos pins s σ H _ I h) fun us s1 ⟨vs, H1, I1, r, q⟩ => ⟨I1.kIn, ?_⟩) h2 h3
  exact rungS F (hr.mono hj) ng hb hd (passAt tk σ) I1 r q
end
/-! ### an own class of errors -/
/-- what the written part says of an own class with an __init__ that sets the fields ns -/
structure OwnC (K : PySem.W.Frag) (mg : Str → Option Value) (x : Str) (C fI : Addr) (ns : List Str) : Prop where
  ox : OexC K C
  xf : XfC K C
  iC : PySem.W.findIn K (.ref C) "__init__" = some (some (.ref fI))
  tI : PySem.W.typeIn K (.ref fI) = some (.type "function")
  no : ∀ f ∈ ns, PySem.W.findIn K (.ref C) f = some none
  m : mg x = some (.ref C)
  self : PySem.W.exmOne K (.ref C) (.ref C) = some true
/-- __init__ sets the fields -/
def SpI (K : PySem.W.Frag) (ns : List Str) : Sp := fun vs H Q _ => ∃ (a C : Addr) (ws : List V), vs = .ref a :: ws ∧ ws.length = ns.length ∧ OexC K C ∧ (∀ f ∈ ns, PySem.W.findIn K (.ref C) f = some none) ∧ H a = some (exo a C none) ∧
  ∀ dx H2, H dx = none → dx ≠ a → H2 a = some (exo a C (some dx)) → H2 dx = some (exd dx (ns.zip ws).reverse) → (∀ b, b ≠ a → b ≠ dx → H2 b = H b) → Q .non H2
theorem init1_ok {K : PySem.W.Frag} {f : Str} {vs : List V} {H : Hp} {Q : VK} {E : XK} (h : SpI K [f] vs H Q E) : tOst K f (tVar 0) (tVar 1) { nx := fun _ H' => Q .non H', rt := Q } (L2.start ["self", "x"] vs) H := by
  obtain ⟨a, C, ws, rfl, hl, T, no, ha, q⟩ := h
  match ws, hl with
  | [y], _ =>
    refine ⟨_, rfl, _, rfl, a, C, rfl, T, no f (by simp), .inl ⟨ha, fun dx h1 h2 => ?_⟩⟩
    refine q dx _ h1 h2 upd_same ?_ fun b n1 n2 => ?_
    · rw [upd_ne h2]; exact upd_same
    · rw [upd_ne n1, upd_ne n2]
theorem zip_rev {α β : Type} : ∀ {l : List α} {m : List β}, l.length = m.length → (l.zip m).reverse = l.reverse.zip m.reverse
  | [], [], _ => rfl
  | a :: l, b :: m, h => by
    have h' : l.length = m.length := by simpa using h
    rw [List.zip_cons_cons, List.reverse_cons, List.reverse_cons, List.reverse_cons, zip_rev h', List.zip_append (by rw [List.length_reverse, List.length_reverse, h'])]
    rfl
section
variable {K : PySem.W.Frag} {E : XK}
/-- raise C(..) -/
def WS.raiseO (C : Addr) (ns : List Str) (a : WA K E) (T : OexC K C) (no : ∀ f ∈ ns, PySem.W.findIn K (.ref C) f = some none) : WS K E := ⟨fun _ σ H => tMkO C (SpI K ns) [] a.t σ H fun cls d H' => E cls d H', a.m, fun χ Γ W => a.w χ Γ fun ds => ds.length = ns.length ∧ ds.length ≤ 1000 ∧ χ C (ns.zip ds).reverse, fun {p χ Γ W} h Hb Hd0 H0 σ Hd H n o l x En k1 k2 k3 k4 => by
  refine a.ok h σ Hd H n o.sr o.g.s o.pe l (x.grow o.g) _ fun vs ds Hd1 H1 g1 pe1 ⟨f1, f2, f3⟩ r => ⟨by rw [r.length]; exact f2, fun a' ha => ?_⟩
  refine ⟨a', C, vs, by rw [List.append_nil], by rw [r.length]; exact f1, T, no, upd_same, fun dx H2 h1 h2 e1 e2 e3 => ⟨rfl, dx, _, e1, e2, ?_, ?_⟩⟩
  · rw [upd_ne h2] at h1; exact h1
  · rw [upd_ne h2] at h1
    have eH : upd (del H2 a') dx (.xd (ns.zip vs).reverse) = upd H1 dx (.xd (ns.zip vs).reverse) := by
      funext b
      by_cases q : b = dx
      · subst q; rw [upd_same, upd_same]
      · rw [upd_ne q, upd_ne q]
        by_cases q2 : b = a'
        · subst q2; rw [del_same, ha]
        · rw [del_ne q2, e3 b q2 q, upd_ne q2]
    rw [eH]
    have g2 : Grow (p.a) Hd1 H1 (upd Hd1 dx (.xd (ns.zip vs).reverse)) (upd H1 dx (.xd (ns.zip vs).reverse)) := Grow.new g1.s h1
    refine x C dx _ _ _ ((o.g.trans g1).trans g2) f3 ?_
    have hz : (ns.zip vs).reverse = (((ns.zip ds).reverse).map (·.1)).zip vs.reverse := by
      have l1 : ns.length = vs.length := by rw [r.length, f1]
      rw [List.map_reverse, List.map_fst_zip (by omega)]
      rw [zip_rev (by omega)]
    refine ⟨vs.reverse, ?_, ?_⟩
    · rw [← hz]; exact upd_same
    · rw [List.map_reverse, List.map_snd_zip (by omega)]
      exact (r.mono g2.d).reverse⟩
/-- error.f in the suite of a clause: the error at a, of the class cls, its fields' dict at d -/
def lookD : List Str → List D → Str → Option D
  | n :: ns, d :: ds, f => if f = n then some d else lookD ns ds f
  | _, _, _ => none
theorem look_zip {H : Hp} {f : Str} : ∀ {ns : List Str} {xs : List V} {ds : List D}, Reps K H xs ds → ∀ {d : D}, lookD ns ds f = some d → ∃ v, (ns.zip xs).lookup f = some v ∧ Rep K H v d
  | [], _, _, _, d, h => by unfold lookD at h; cases h
  | n :: ns, _, _, .nil, d, h => by unfold lookD at h; cases h
  | n :: ns, x :: xs, e :: ds, .cons h1 r, d, h => by
    rw [List.zip_cons_cons]
    by_cases z : f = n
    · rw [show lookD (n :: ns) (e :: ds) f = some e from if_pos z] at h
      cases h
      subst z
      exact ⟨x, by simp [List.lookup], h1⟩
    · rw [show lookD (n :: ns) (e :: ds) f = lookD ns ds f from if_neg z] at h
      obtain ⟨v, q1, q2⟩ := look_zip r h
      have z' : (f == n) = false := by simpa using z
      exact ⟨v, by simp [List.lookup, z']; exact q1, q2⟩
def WE.xf (a : Addr) (cls : Value) (d : Option Addr) (C : Addr) (f : Str) (e : WE K E) : WE K E := ⟨tXf a cls d C f e.t, e.m, fun χ Γ φ => e.w χ Γ fun x => ∃ dx ns ds y, x = .exc a dx ns ds ∧ cls = .ref C ∧ d = some dx ∧ lookD ns ds f = some y ∧ φ y, fun {p χ Γ φ} h σ Hd H n s sa pe l x Q q =>
  e.ok h σ Hd H n s sa pe l x _ fun v d' Hd1 H1 g1 pe1 ⟨dx, ns, ds, y, e1, e2, e3, e4, f1⟩ r => by
    subst e1
    cases r with
    | exc h1 h2 h3 =>
      obtain ⟨v, q1, q2⟩ := look_zip h3 e4
      exact ⟨rfl, e2, _, _, v, e3, g1.s _ _ h1, q1, q v y Hd1 H1 g1 pe1 f1 q2⟩⟩
theorem Ok.unset {c : Ct} {Hb Hd0 H0 Hd H : Hp} {σ : L2.St} {Γ : List Sk} {n i : Nat} (o : Ok c Hb Hd0 H0 σ Γ Hd H n) : Ok c Hb Hd0 H0 (σ.set i none) (Γ.set i .un) Hd H n :=
  o.slots (o.sr.set (i := i) (o := none) (k := .un) True.intro rfl) fun j k h1 h2 => by
    by_cases e : i = j
    · subst e
      rw [List.getElem?_set_self (by
        have := (List.getElem?_eq_some_iff.mp h1).1
        simpa using this)] at h1
      cases h1; cases h2
    · rw [List.getElem?_set_ne e] at h1
      exact ⟨h1, by rw [List.getElem?_set_ne e]⟩
/-- try: x = f(..) except C as n: suite -/
def WS.tryAsg (j : Nat) (pre : List D → Prop) (post : List D → D → Prop) (χ' : List D → Xq) (a : WA K E) (i : Nat) (C : Addr) (suite : Addr → Value → Option Addr → WS K E) (m : Nat) (hm : ∀ a c d, (suite a c d).m ≤ m) (self : PySem.W.exmOne K (.ref C) (.ref C) = some true) : WS K E :=
  ⟨fun En σ H => tAsg (tCallSD (SpX K pre post χ') [] (L2.WE (wAs K (.ref C) i (fun a c d => (suite a c d).t) (fun _ _ _ _ => False) En)) a.t) (gName j) En σ H, a.m + m,
   fun χ Γ W => a.w χ Γ fun ds => pre ds ∧ (∀ d, post ds d → W.N (Γ.set j (.dat d))) ∧ ∀ C' fs, χ' ds C' fs → C' = C ∧ ∀ x dx, (suite x (.ref C) (some dx)).w χ (Γ.set i (.dat (.exc x dx (fs.map (·.1)) (fs.map (·.2))))) { N := fun G => W.N (G.set i .un), R := W.R, B := fun G => W.B (G.set i .un), C := fun G => W.C (G.set i .un) },
   fun {p χ Γ W} h Hb Hd0 H0 σ Hd H n o l x En k1 k2 k3 k4 => by
    refine a.ok h σ Hd H n o.sr o.g.s o.pe (by show n + a.m ≤ LIM; omega) (x.grow o.g) _ fun vs ds Hd1 H1 g1 pe1 ⟨f1, f2, f3⟩ r => ?_
    refine ⟨Hd1, ds, g1.s, by rw [List.append_nil]; exact r, f1, fun v d Hd2 H2 g2 q2 r2 => ?_, fun C' dx fs Hd2 H2 g2 hχ xa => ?_⟩
    · exact k1 _ _ _ _ (f2 d q2) (((o.grow (g1.trans g2.up) (pe1.grow g2)).set r2).more (by omega))
    · obtain ⟨rfl, f4⟩ := f3 C' fs hχ
      refine ⟨true, self, fun _ a' ha => ?_, fun z => nomatch z⟩
      obtain ⟨xs, e1, e2⟩ := xa
      have hl : (fs.map (·.1)).length = xs.length := by rw [e2.length, List.length_map, List.length_map]
      have o2 := (o.grow (g1.trans g2.up) (pe1.grow g2)).set (i := i) (v := .ref a') (d := .exc a' dx (fs.map (·.1)) (fs.map (·.2))) (.exc e1 hl e2)
      have hm' := hm a' (.ref C') (some dx)
      refine (suite a' (.ref C') (some dx)).ok (f4 a' dx) Hb Hd0 H0 _ _ _ _ o2 (by show n + a.m + (suite a' (.ref C') (some dx)).m ≤ LIM; omega) x _ ?_ ?_ ?_ ?_
      · intro Γ' σ' Hd' H' f o3; exact k1 _ _ _ _ f (o3.unset.more (by omega))
      · intro Γ' σ' Hd' H' f o3; exact k2 _ _ _ _ f (o3.unset.more (by omega))
      · intro Γ' σ' Hd' H' f o3; exact k3 _ _ _ _ f (o3.unset.more (by omega))
      · intro v d Hd' H' f g pe r; exact k4 _ _ _ _ f g (pe.more (by omega)) r⟩
end
/-! ### defs that raise, by their terms -/
section
variable {P : Program} {w : World} {K : PySem.W.Frag} {mg : Str → Option Value} {base : Heap} {x : Str} {k : Nat} {ps N : List Str} {dvs : List V} {st : Stmt} {pre : List D → Prop} {post : List D → D → Prop} {χ : List D → Xq}
theorem cal_WX (T : ∀ E : XK, WS K E) (Df : Def K mg x st ps dvs) (S : FnScope N ps (defScope st)) (hl : ∀ ds, pre ds → ds.length = ps.length)
    (hb : ∀ (f : Addr) (cdv : Value) (A : Around) (outer : List Env) (s : Shared) (H : Hp) (E : XK), Room k (A.deeper (envOfC x (defScope st) s.heap.objs.size f cdv)) → NoG (A.deeper (envOfC x (defScope st) s.heap.objs.size f cdv)) →
      ∃ t, PSs (cxOf (L2.CX P w) P w K mg base N x (defScope st) f cdv A outer s H E) (defBody st) t ∧ t = (T E).t) (hm : ∀ E, (T E).m = 0) (hw : ∀ E ds, pre ds → (T E).w (χ ds) (G0 N ds) (retW (post ds))) : CalX P w K mg base x (k + 1) ps dvs (SpX K pre post χ) := by
  obtain ⟨f, fd, ds, F, hm', b, v⟩ := Df.ex
  refine ⟨f, fd, ds, fng_of F S (fun vs H Q E h => ?_) (fun cdv A outer s H vs Q E hr ng h => ?_), hm', F.kp, b, v⟩
  · obtain ⟨Hd, ds, sa, r, hp, _⟩ := h
    rw [r.length, hl ds hp]
  · obtain ⟨Hd, ds, sa, r, hp, q, qx⟩ := h
    refine ⟨(T E).t, (hb f cdv A outer s H E hr ng).elim fun t h => h.2 ▸ h.1, (T E).ok (p := none) (χ := χ ds) (hw E ds hp) Hd Hd H _ Hd H 0 ⟨Same.refl _, sa, .refl sa, sr_start r, True.intro, fun i k' l h1 h2 _ => by rw [G0_own h1] at h2; cases h2⟩ (by rw [hm E]; decide) (fun C dx fs Hd' H' g hx xa => qx C dx fs Hd' H' g hx xa) _ ?_ ?_ ?_ ?_⟩
    · intro Γ' σ' Hd' H' n o; exact q .non .non Hd' H' o.g n .non
    · intro _ _ _ _ z; exact z.elim
    · intro _ _ _ _ z; exact z.elim
    · intro v d Hd' H' n g _ r'; exact q v d Hd' H' g n r'
end
end DL
namespace DL
open PySem L2 PyProof.Rows
variable [Tbl]
/-- an own class whose __init__ is proved -/
structure OwnI (P : Program) (w : World) (K : PySem.W.Frag) (mg : Str → Option Value) (base : Heap) (x : Str) (C fI : Addr) (ns : List Str) (k : Nat) : Prop where
  own : OwnC K mg x C fI ns
  ex : ∃ fd ps, FnOk P w K mg base CX0 k fI fd ps (SpI K ns) ∧ Binds K fd ps []
/-- class C: def __init__(self, f): self.f = f -/
theorem init1_fn {P : Program} {w : World} {K : PySem.W.Frag} {mg : Str → Option Value} {base : Heap} {qual f : Str} {st : Stmt} {fI : Addr} {fd : FuncData} {N ps : List Str} (F : Fun K "__init__" qual st fI fd) (S : FnScope N ps (defScope st)) (hN : N.length = 2) (hp : ps.length = 2)
    (hb : ∀ (cdv : Value) (A : Around) (outer : List Env) (s : Shared) (H : Hp) (E : XK), PSs (cxOf CX0 P w K mg base N qual (defScope st) fI cdv A outer s H E).nox (defBody st) (tOst K f (tVar 0) (tVar 1))) : FnOk P w K mg base CX0 1 fI fd ps (SpI K [f]) :=
  F.ok (k := 0) S (fun vs H Q E h => by obtain ⟨a, C, ws, rfl, hl, _⟩ := h; rw [List.length_cons, hl, hp]; rfl) fun cdv A outer s H vs Q E hr h => ⟨_, hb cdv A outer s H E, by
    have e := init1_ok h (E := E)
    obtain ⟨a, C, ws, rfl, hl, _⟩ := h
    have e2 : L2.start N (.ref a :: ws) = L2.start ["self", "x"] (.ref a :: ws) := by
      unfold L2.start
      rw [hN]; rfl
    rw [e2]; exact e⟩
section
variable {X : Cx} {E : XK} {x : Str} {C fI : Addr} {ns : List Str} {j k : Nat} {e : Expr} {es : List Expr} {ta : TA} {p pos pos2 : Pos}
theorem ps_raiseO (O : OwnI X.prog X.w X.K X.mg X.base x C fI ns j) (hr : Room k X.A) (hj : j + 1 ≤ k) (hc : X.calm = true) (tk : Takes X (fun cls d _ H => E cls d H)) (hg : Gl X x) (ha : PA X (e :: es) ta)
    (hdb : (x == ("__debug__" : Str)) = false := by decide) (he : starEach (e :: es) X.env = (false, eval e X.env) :: starEach es X.env := by rfl) (hpl : (backTo pos (starEach es X.env)).any (·.1) = false := by rfl) :
    PS X (.Raise (some (.Call (.Name x p) (e :: es) [] pos)) none pos2) (fun _ σ H => tMkO C (SpI X.K ns) [] ta σ H fun cls d H' => E cls d H') := by
  obtain ⟨fd, ps, F, hb⟩ := O.ex
  exact ps_raise hc tk (pmk_oex O.own.ox O.own.iC O.own.tI F (hr.mono hj) hb .nil pass0 hg O.own.m ha hdb he hpl)
end
section
variable {K : PySem.W.Frag} {E : XK} {χ : Xq} {Γ : List Sk} {φ : D → Prop} {W : Wh}
theorem w_raiseO {C : Addr} {ns : List Str} {a : WA K E} {T : OexC K C} {no : ∀ f ∈ ns, PySem.W.findIn K (.ref C) f = some none} : (WS.raiseO C ns a T no).w χ Γ W = a.w χ Γ fun ds => ds.length = ns.length ∧ ds.length ≤ 1000 ∧ χ C (ns.zip ds).reverse := rfl
theorem w_xf {a : Addr} {cls : Value} {d : Option Addr} {C : Addr} {f : Str} {e : WE K E} : (WE.xf a cls d C f e).w χ Γ φ = e.w χ Γ fun x => ∃ dx ns ds y, x = .exc a dx ns ds ∧ cls = .ref C ∧ d = some dx ∧ lookD ns ds f = some y ∧ φ y := rfl
theorem w_tryAsg {j : Nat} {pre : List D → Prop} {post : List D → D → Prop} {χ' : List D → Xq} {a : WA K E} {i : Nat} {C : Addr} {suite : Addr → Value → Option Addr → WS K E} {m : Nat} {hm : ∀ a c d, (suite a c d).m ≤ m} {self : PySem.W.exmOne K (.ref C) (.ref C) = some true} : (WS.tryAsg j pre post χ' a i C suite m hm self).w χ Γ W = a.w χ Γ fun ds => pre ds ∧ (∀ d, post ds d → W.N (Γ.set j (.dat d))) ∧ ∀ C' fs, χ' ds C' fs → C' = C ∧ ∀ x dx, (suite x (.ref C) (some dx)).w χ (Γ.set i (.dat (.exc x dx (fs.map (·.1)) (fs.map (·.2))))) { N := fun G => W.N (G.set i .un), R := W.R, B := fun G => W.B (G.set i .un), C := fun G => W.C (G.set i .un) } := rfl
end
end DL
set_option maxRecDepth 100000
set_option maxHeartbeats 4000000
/-! DLr: the text that repr gives is one that == may be asked of. -/
namespace DL
open PySem L2 PyProof.Rows
variable [Tbl]
theorem char_lt (c : Char) : c.toNat < 0x110000 := by
  have h := c.valid
  rcases h with h | h
  · exact Nat.lt_trans h (by decide)
  · exact h.2
theorem strOk_list {l : List Nat} (h : ∀ k ∈ l, k < 0x110000) : PyData.strOk ⟨l.toArray⟩ = true := by
  unfold PyData.strOk
  simp only [List.all_toArray, List.all_eq_true]
  exact fun k hk => decide_eq_true (h k hk)
theorem strOk_mem {x : Str} (h : PyData.strOk x = true) : ∀ k ∈ x.cps.toList, k < 0x110000 := by
  unfold PyData.strOk at h
  rw [← Array.all_toList, List.all_eq_true] at h
  exact fun k hk => of_decide_eq_true (h k hk)
theorem strOk_of {x : Str} (h : ∀ k ∈ x.cps.toList, k < 0x110000) : PyData.strOk x = true := by
  unfold PyData.strOk
  rw [← Array.all_toList, List.all_eq_true]
  exact fun k hk => decide_eq_true (h k hk)
theorem strOk_ofString (s : String) : PyData.strOk (Str.ofString s) = true := by
  refine strOk_of fun k hk => ?_
  rw [Str.ofString_eq_toList] at hk
  have hk' : k ∈ s.toList.map Char.toNat := hk
  obtain ⟨c, _, rfl⟩ := List.mem_map.mp hk'
  exact char_lt c
theorem reprChar_ok {q c : Nat} (hc : c < 0x110000) : ∀ k ∈ Builtin.Str.reprChar q c, k < 0x110000 := by
  have hx : ∀ w k, k ∈ List.replicate (w - ((Nat.toDigits 16 c).map Char.toNat).length) 48 ++ (Nat.toDigits 16 c).map Char.toNat → k < 0x110000 := fun w k hk => by
    rcases List.mem_append.mp hk with h | h
    · rw [(List.mem_replicate.mp h).2]; decide
    · obtain ⟨d, _, rfl⟩ := List.mem_map.mp h
      exact char_lt d
  intro k hk
  unfold Builtin.Str.reprChar at hk
  have two : ∀ a b, a < 0x110000 → b < 0x110000 → k ∈ [a, b] → k < 0x110000 := fun a b ha hb h => by
    simp only [List.mem_cons, List.not_mem_nil, or_false] at h
    rcases h with rfl | rfl <;> assumption
  dsimp only at hk
  split at hk
  · exact two _ _ (by decide) hc hk
  split at hk
  · exact two _ _ (by decide) (by decide) hk
  split at hk
  · exact two _ _ (by decide) (by decide) hk
  split at hk
  · exact two _ _ (by decide) (by decide) hk
  split at hk
  · rw [List.mem_singleton.mp hk]; exact hc
  split at hk
  · rcases List.mem_append.mp hk with h | h
    · exact two _ _ (by decide) (by decide) h
    · exact hx _ k h
  split at hk
  · rcases List.mem_append.mp hk with h | h
    · exact two _ _ (by decide) (by decide) h
    · exact hx _ k h
  · rcases List.mem_append.mp hk with h | h
    · exact two _ _ (by decide) (by decide) h
    · exact hx _ k h
theorem foldl_ok (q : Nat) : ∀ (l : List Nat) (acc : Array Nat), (∀ c ∈ l, c < 0x110000) → (∀ c ∈ acc.toList, c < 0x110000) → ∀ c ∈ (l.foldl (fun out c => out ++ (Builtin.Str.reprChar q c).toArray) acc).toList, c < 0x110000
  | [], acc, _, h => h
  | x :: l, acc, hl, h => by
    refine foldl_ok q l _ (fun c hc => hl c (List.mem_cons_of_mem _ hc)) fun c hc => ?_
    rw [Array.toList_append] at hc
    rcases List.mem_append.mp hc with z | z
    · exact h c z
    · exact reprChar_ok (hl x List.mem_cons_self) c z
theorem reprText_ok {x : Str} (h : PyData.strOk x = true) : PyData.strOk (reprText x) = true := by
  have hq : reprQuote x < 0x110000 := by unfold reprQuote; split <;> decide
  refine strOk_of fun k hk => ?_
  unfold reprText at hk
  rw [Array.toList_push, ← Array.foldl_toList] at hk
  rcases List.mem_append.mp hk with z | z
  · exact foldl_ok _ _ _ (strOk_mem h) (fun c hc => by simp at hc; rw [hc]; exact hq) k z
  · rw [List.mem_singleton.mp z]; exact hq
theorem join_ok {s : Str} (hs : PyData.strOk s = true) : ∀ {l : List Str}, (∀ t ∈ l, PyData.strOk t = true) → PyData.strOk (Str.join s l) = true
  | [], _ => by show PyData.strOk Str.empty = true; decide +kernel
  | [x], h => h x (by simp)
  | x :: y :: r, h => strOk_add (strOk_add (h x (by simp)) hs) (join_ok hs fun t ht => h t (List.mem_cons_of_mem _ ht))
mutual
theorem shown_ok : ∀ d : D, d.py.canLay0 = true → PyData.strOk d.py.shown = true
  | .non, _ => strOk_ofString _
  | .bl b, _ => by
    show PyData.strOk (PyData.bool b).shown = true
    rw [PyData.shown_bool]
    cases b <;> exact strOk_ofString _
  | .int i, _ => by
    show PyData.strOk (PyData.int i).shown = true
    rw [PyData.shown_int]; exact strOk_ofString _
  | .str x, h => by
    show PyData.strOk (PyData.str x).shown = true
    rw [PyData.shown_str]; exact reprText_ok h
  | .lst ds, h => by
    show PyData.strOk (PyData.list (D.pys ds)).shown = true
    rw [PyData.shown_list]
    exact strOk_add (strOk_add (strOk_ofString _) (join_ok (strOk_ofString _) (shown_oks ds h))) (strOk_ofString _)
  | .tup ds, h => by
    show PyData.strOk (PyData.tuple (D.pys ds)).shown = true
    rw [PyData.shown_tuple]
    exact strOk_add (strOk_add (strOk_ofString _) (join_ok (strOk_ofString _) (shown_oks ds h))) (strOk_ofString _)
  | .dct _ _, _ => strOk_ofString _
  | .dcf _ _, _ => strOk_ofString _
  | .dtf _ _, _ => strOk_ofString _
  | .obj _ _ _, _ => strOk_ofString _
  | .exc _ _ _ _, _ => strOk_ofString _
  | .ptr _, _ => strOk_ofString _
  | .err _ _ _, _ => strOk_ofString _
theorem shown_oks : ∀ ds : List D, PyData.canLayAll0 (D.pys ds) = true → ∀ t ∈ PyData.shownAll (D.pys ds), PyData.strOk t = true
  | [], _, t, ht => by
    rw [show D.pys [] = [] from rfl, PyData.shownAll_nil] at ht
    cases ht
  | d :: ds, h, t, ht => by
    have h' := Bool.and_eq_true_iff.mp (show (PyData.canLay0 d.py && PyData.canLayAll0 (D.pys ds)) = true from h)
    rw [show D.pys (d :: ds) = d.py :: D.pys ds from rfl, PyData.shownAll_cons] at ht
    rcases List.mem_cons.mp ht with rfl | z
    · exact shown_ok d h'.1
    · exact shown_oks ds h'.2 t z
end
section
variable {K : PySem.W.Frag} {E : XK} {χ : Xq} {Γ : List Sk} {φ : D → Prop}
/-- a written dict, its keys told -/
structure WDK (K : PySem.W.Frag) (E : XK) (ks : List Key) where
  d : WD K E
  hk : d.ks = ks
def WDK.nil : WDK K E [] := ⟨WD.nil, rfl⟩
def WDK.cons (k : Str) (a : WE K E) {ks : List Key} (r : WDK K E ks) : WDK K E (.inr k :: ks) := ⟨WD.cons k a r.d, by show .inr k :: r.d.ks = _; rw [r.hk]⟩
def WE.dispK {ks : List Key} (a : WDK K E ks) (hn : ks.Nodup) (hl : ks.length ≤ 15) : WE K E := ⟨tDisp a.d.t, a.d.m, fun χ Γ φ => a.d.w χ Γ fun ds => φ (.dct ks ds), fun {p χ Γ φ} h => by
  obtain ⟨d, hk⟩ := a
  subst hk
  exact (WE.disp d hn hl).ok h⟩
theorem w_dispK {ks : List Key} {a : WDK K E ks} {hn : ks.Nodup} {hl : ks.length ≤ 15} : (WE.dispK a hn hl).w χ Γ φ = a.d.w χ Γ fun ds => φ (.dct ks ds) := rfl
theorem w_knil {ξ : List D → Prop} : (WDK.nil (K := K) (E := E)).d.w χ Γ ξ = ξ [] := rfl
theorem w_kcons {k : Str} {a : WE K E} {ks : List Key} {r : WDK K E ks} {ξ : List D → Prop} : (WDK.cons k a r).d.w χ Γ ξ = a.w χ Γ fun d => r.d.w χ Γ fun ds => ξ (d :: ds) := rfl
end
/-! within the suite of a clause the surroundings bear the caught error -/
theorem un66_mark {k : Nat} {A : Around} {x : Option Value} (r : Room k A) : (A.mark x).units + 66 < cLine := by
  have := r.un
  show A.units + 66 < cLine
  omega
theorem un64_mark {k : Nat} {A : Around} {x : Option Value} (r : Room k A) : (A.mark x).units + 64 < cLine := r.units
theorem ng_mark {A : Around} {x : Option Value} (r : NoG A) : NoG (A.mark x) := r
section
variable {K : PySem.W.Frag} {E : XK} {χ : Xq} {Γ : List Sk} {W : Wh}
theorem tryAsg_intro {j : Nat} {pre : List D → Prop} {post : List D → D → Prop} {χ' : List D → Xq} {a : WA K E} {i : Nat} {C : Addr} {suite : Addr → Value → Option Addr → WS K E} {m : Nat} {hm : ∀ a c d, (suite a c d).m ≤ m} {self : PySem.W.exmOne K (.ref C) (.ref C) = some true}
    (h : a.w χ Γ fun ds => pre ds ∧ (∀ d, post ds d → W.N (Γ.set j (.dat d))) ∧ ∀ C' fs, χ' ds C' fs → C' = C ∧ ∀ x dx, (suite x (.ref C) (some dx)).w χ (Γ.set i (.dat (.exc x dx (fs.map (·.1)) (fs.map (·.2))))) { N := fun G => W.N (G.set i .un), R := W.R, B := fun G => W.B (G.set i .un), C := fun G => W.C (G.set i .un) }) :
    (WS.tryAsg j pre post χ' a i C suite m hm self).w χ Γ W := h
end
/-- a promise read at other words for the same slots and posts (the term is a letter here: it is not opened) -/
theorem w_at {K : PySem.W.Frag} {E : XK} (U : WS K E) {χ χ' : Xq} {Γ Γ' : List Sk} {φ φ' : D → Prop} (h : U.w χ Γ (retW φ)) (eχ : χ = χ') (eΓ : Γ = Γ') (eφ : φ = φ') : U.w χ' Γ' (retW φ') := eχ ▸ eΓ ▸ eφ ▸ h
end DL
set_option maxRecDepth 100000
set_option maxHeartbeats 4000000
/-! DLend: what the written part of a law's start tells, made into Def, OwnC and the names of the module. -/
namespace DL
open PySem L2 PyProof.Rows
variable [Tbl]
section
variable {K : PySem.W.Frag} {h : Heap} {mg : Str → Option Value} {x : Str} {st : Stmt} {ps : List Str}
theorem def_mk {f : Addr} {oc : Value} {od an : Option Addr} {osl : Array (Option Value)} {kV doc pm cdv ct : Value} (X : K.In h) (G : h.Ns mainGlobals mg) (a : PySem.W.nsIn K mainGlobals x = some (some (.ref f)))
    (l : K.lookup f = some ⟨oc, od, .func (PySem.W.fnOf x x (defArgs st) (defBody st) (defScope st) .none kV doc pm an cdv ct), osl⟩) (c : PySem.W.codeIn K cdv x = true) (k : PySem.W.keepIn K (.ref f) = true)
    (b : ∀ (kV doc pm : Value) (an : Option Addr) (cdv ct : Value) (us : List Value), us.length = ps.length → bindArgs (PySem.W.fnOf x x (defArgs st) (defBody st) (defScope st) .none kV doc pm an cdv ct) ⟨us, []⟩ = pure (ps.zip us)) : Def K mg x st ps [] :=
  ⟨f, _, [], ⟨⟨oc, od, .none, kV, doc, pm, an, cdv, ct, osl, rfl, l, c⟩, k⟩, PySem.W.mg_of X G a, .all (b kV doc pm an cdv ct), .nil⟩
/-- a def with defaults dvs; a call writes n values -/
theorem def_mkD {f T : Addr} {o : Obj} {its : List Value} {m : Nat} {dvs : List V} (n j : Nat) {oc : Value} {od an : Option Addr} {osl : Array (Option Value)} {kV doc pm cdv ct : Value} (X : K.In h) (G : h.Ns mainGlobals mg) (a : PySem.W.nsIn K mainGlobals x = some (some (.ref f)))
    (l : K.lookup f = some ⟨oc, od, .func (PySem.W.fnOf x x (defArgs st) (defBody st) (defScope st) (.ref T) kV doc pm an cdv ct), osl⟩) (lT : K.lookup T = some o) (c : PySem.W.codeIn K cdv x = true) (k : PySem.W.keepIn K (.ref f) = true)
    (oT : o.data = .seq its.toArray m) (r : Vals dvs its) (hd : dvs ≠ []) (hn : n + (dvs.length - j) = ps.length)
    (b : ∀ (T : Addr) (kV doc pm : Value) (an : Option Addr) (cdv ct : Value) (us its : List Value), us.length = n → its.length = dvs.length →
      ∃ k, bindArgs (PySem.W.fnOf x x (defArgs st) (defBody st) (defScope st) (.ref T) kV doc pm an cdv ct) ⟨us, []⟩ = seqItems? (.ref T) >>= k ∧ k (some its.toArray) = pure (ps.zip (us ++ its.drop j))) : Def K mg x st ps (dvs.drop j) := by
  have F : FunD K x x (defArgs st) (defBody st) (defScope st) dvs [] f (PySem.W.fnOf x x (defArgs st) (defBody st) (defScope st) (.ref T) kV doc pm an cdv ct) :=
    ⟨⟨oc, od, .ref T, kV, doc, pm, an, cdv, ct, osl, rfl, l, c, .inr ⟨hd, T, o, its, m, rfl, lT, oT, r⟩, .inl rfl⟩, k⟩
  obtain ⟨ds, v, bb⟩ := F.binds1 (ps := ps) n j hd hn b
  exact ⟨f, _, ds, ⟨⟨oc, od, .ref T, kV, doc, pm, an, cdv, ct, osl, rfl, l, c⟩, k⟩, PySem.W.mg_of X G a, bb, v⟩
/-- a name of the module that holds a scalar -/
theorem glo_mk {u : Value} {v : V} (X : K.In h) (G : h.Ns mainGlobals mg) (a : PySem.W.nsIn K mainGlobals x = some (some u)) (r : RelV v u) : ∃ u, mg x = some u ∧ RelV v u := ⟨u, PySem.W.mg_of X G a, r⟩
/-- .. that holds a tuple of scalars -/
theorem tup_mk {A : Addr} {od : Option Addr} {its : Array Value} {n : Nat} {osl : Array (Option Value)} {xs : List V} (X : K.In h) (G : h.Ns mainGlobals mg) (a : PySem.W.nsIn K mainGlobals x = some (some (.ref A)))
    (l : K.lookup A = some ⟨.type "tuple", od, .seq its n, osl⟩) (z : its.size ≤ sizeLine) (r : Vals xs its.toList) : ∃ A, (∃ u, mg x = some u ∧ RelV (.ref A) u) ∧ ∀ H, SqT K H A xs :=
  ⟨A, ⟨_, PySem.W.mg_of X G a, rfl⟩, fun H => .inr ⟨_, its, n, l, rfl, rfl, z, r⟩⟩
theorem exm_self {S : Addr} (h1 : PySem.W.subIn K (.ref S) (.type "BaseException") = some true) (h2 : PySem.W.isClsIn K S = true) (h3 : PySem.W.typeIn K (.ref S) = some (.type "type")) (h4 : PySem.W.subIn K (.ref S) (.ref S) = some true) :
    PySem.W.exmOne K (.ref S) (.ref S) = some true := by
  have e1 : (PySem.W.subIn K (.ref S) (.type "BaseException") == some true) = true := by rw [h1] <;> rfl
  have e2 : ((PySem.W.clsIn K S).isSome && PySem.W.typeIn K (.ref S) == some (.type "type")) = true := by
    have h2' : (PySem.W.clsIn K S).isSome = true := h2
    rw [h2', h3] <;> rfl
  show (if (PySem.W.subIn K (.ref S) (.type "BaseException") == some true) = true then (if ((PySem.W.clsIn K S).isSome && PySem.W.typeIn K (.ref S) == some (.type "type")) = true then PySem.W.subIn K (.ref S) (.ref S) else none) else none) = some true
  rw [if_pos e1, if_pos e2]
  exact h4
/-- an own class of errors -/
theorem own_mk {qual : Str} {C fI : Addr} {ns : List Str} {nm q : Str} {N : Addr} {bs bm : List Value} {sn : List Str} {sub : List Value} {ab : Bool} {col : Option Bool} {dd : Option Addr} {m0 m1 m2 m3 m5 : Option Value}
    {oc : Value} {od an : Option Addr} {osl : Array (Option Value)} {kV doc pm cdv ct : Value} (X : K.In h) (G : h.Ns mainGlobals mg) (aC : PySem.W.nsIn K mainGlobals x = some (some (.ref C)))
    (xL : K.lookup C = some (excClassObj nm q C N bs bm true sn sub ab col dd m0 m1 m2 m3 m5 "ValueError.__new__")) (ve : PySem.HandSPX.refsVE bm = true)
    (sa : PySem.W.findIn K (.ref C) "__setattr__" = some (some (.builtin "object.__setattr__"))) (ga : PySem.W.findIn K (.ref C) "__getattribute__" = some (some (.builtin "BaseException.__getattribute__"))) (gg : PySem.W.findIn K (.ref C) "__getattr__" = some none)
    (no : ∀ f ∈ ns, PySem.W.findIn K (.ref C) f = some none) (a1 : PySem.W.findIn K (.ref C) "__init__" = some (some (.ref fI))) (t1 : PySem.W.typeIn K (.ref fI) = some (.type "function"))
    (l : K.lookup fI = some ⟨oc, od, .func (PySem.W.fnOf "__init__" qual (defArgs st) (defBody st) (defScope st) .none kV doc pm an cdv ct), osl⟩) (c : PySem.W.codeIn K cdv qual = true) (k : PySem.W.keepIn K (.ref fI) = true)
    (kC : PySem.W.keepIn K (.ref C) = true) (eC : PySem.W.subIn K (.ref C) (.type "BaseException") = some true) (tC : PySem.W.typeIn K (.ref C) = some (.type "type")) (hC : PySem.W.hasDictIn K C = true) (iC : PySem.W.isClsIn K C = true) (sC : PySem.W.subIn K (.ref C) (.ref C) = some true)
    (b : ∀ (kV doc pm : Value) (an : Option Addr) (cdv ct : Value) (us : List Value), us.length = ps.length → bindArgs (PySem.W.fnOf "__init__" qual (defArgs st) (defBody st) (defScope st) .none kV doc pm an cdv ct) ⟨us, []⟩ = pure (ps.zip us)) :
    ∃ C fI, OwnC K mg x C fI ns ∧ ∃ fd, Fun K "__init__" qual st fI fd ∧ Binds K fd ps [] :=
  ⟨C, fI, ⟨⟨⟨nm, q, N, bs, bm, sn, sub, ab, col, dd, m0, m1, m2, m3, m5, xL, ve⟩, sa, eC, tC, kC⟩, ⟨ga, gg, eC, hC⟩, a1, t1, no, PySem.W.mg_of X G aC, exm_self eC iC tC sC⟩, _, fun_mk l c k, .all (b kV doc pm an cdv ct)⟩
end
section
variable {P : Program} {w : World} {K : PySem.W.Frag} {mg : Str → Option Value} {base : Heap} {x : Str} {k : Nat} {ps N : List Str} {sp : Sp} {st : Stmt} {f : Addr} {fd : FuncData}
theorem fng_raw (F : FunV K x x st f fd) (S : FnScope N ps (defScope st)) (len : ∀ vs H Q E, sp vs H Q E → vs.length = ps.length)
    (hb : ∀ (f : Addr) (cdv : Value) (A : Around) (outer : List Env) (s : Shared) (H : Hp) (vs : List V) (Q : VK) (E : XK), Room k (A.deeper (envOfC x (defScope st) s.heap.objs.size f cdv)) → NoG (A.deeper (envOfC x (defScope st) s.heap.objs.size f cdv)) → sp vs H Q E →
      ∃ t, PSs (cxOf CX0 P w K mg base N x (defScope st) f cdv A outer s H E).nox (defBody st) t ∧ t { nx := fun _ H' => Q .non H', rt := Q } (L2.start N vs) H) : FnG P w K mg base CX0 (k + 1) f fd ps sp :=
  fng_of F S len fun cdv A outer s H vs Q E r ng h => by
    obtain ⟨t, h1, h2⟩ := hb f cdv A outer s H vs Q E r ng h
    exact ⟨t, h1.nox, h2⟩
/-- the law's def -/
theorem law_mk {h : Heap} {fa : Addr} {oc : Value} {od an : Option Addr} {osl : Array (Option Value)} {kV doc pm cdv ct : Value} (X : K.In h) (G : h.Ns mainGlobals mg) (hfa : mg x = some (.ref fa)) (a : PySem.W.nsIn K mainGlobals x = some (some (.ref f)))
    (l : K.lookup f = some ⟨oc, od, .func (PySem.W.fnOf x x (defArgs st) (defBody st) (defScope st) .none kV doc pm an cdv ct), osl⟩) (c : PySem.W.codeIn K cdv x = true) (k : PySem.W.keepIn K (.ref f) = true)
    (b : ∀ (kV doc pm : Value) (an : Option Addr) (cdv ct : Value) (u : Value), bindArgs (PySem.W.fnOf x x (defArgs st) (defBody st) (defScope st) .none kV doc pm an cdv ct) ⟨[u], []⟩ = pure [(("script" : Str), u)]) :
    ∃ fd : FuncData, (∀ (s : Shared) (u : Value), BindsTo s fd ⟨[u], []⟩ [("script", u)]) ∧ FunV K x x st fa fd := by
  have e := hfa.symm.trans (PySem.W.mg_of X G a)
  cases e
  exact ⟨_, fun s u => .of_eq (b kV doc pm an cdv ct u), ⟨oc, od, .none, kV, doc, pm, an, cdv, ct, osl, rfl, l, c⟩, k⟩
end
end DL
set_option maxRecDepth 100000
set_option maxHeartbeats 4000000
/-! DLo: objects of an own class: made, read, compared. -/
namespace DL
open PySem L2 PySem.Spec PyProof.Rows
variable [Tbl]
section
variable {X : Cx} {CX : CXT} {k j : Nat} {C f : Addr} {fd : FuncData} {ps : List Str} {sp : Sp} {x : Str} {p pos : Pos} {e : Expr} {es : List Expr} {t : TA} {ds : List Value} {dvs : List V} {E : XK}
theorem rungM {pins : List (Addr × Obj)} {σ : L2.St} {H : Hp} {s : Shared} {Q : VK} {us : List Value} {vs : List V} (M : Mk X.K C f) (F : FnG X.prog X.w X.K X.mg X.base CX k f fd ps sp) (hr : Room (k + 1) X.A) (ng : NoG X.A) (hb : Binds X.K fd ps []) (hx : PassesAt CX X σ E)
    (I : L2.Inv X pins σ H s) (r : Vals vs us)
    (h : ∀ x dx, H x = none → H dx = none → dx ≠ x → sp (.ref x :: vs) (upd (upd H dx (.own x)) x (.ins C dx [])) (fun v H2 => v = .non ∧ Q (.ref x) H2) E) :
    wpAny (model X.prog X.w) X.A (call (.ref C) us) (EP X pins σ Q) X.xe s := by
  have want := h (s.heap.objs.size + 1) s.heap.objs.size (I.hok.fresh (Nat.le_succ _)) (I.hok.fresh (Nat.le_refl _)) (Nat.ne_of_lt (Nat.lt_succ_self _))
  have I2 := Inv.made (C := C) I
  have both : Vals (V.ref (s.heap.objs.size + 1) :: vs) (Value.ref (s.heap.objs.size + 1) :: us) := .cons rfl r
  have same : (Value.ref (s.heap.objs.size + 1) :: us ++ []).length = ps.length := by
    rw [List.append_nil, ← both.length]; exact F.len _ _ _ _ want
  have bnd := hb _ (Value.ref (s.heap.objs.size + 1) :: us) I2.kIn same
  rw [List.append_nil] at bnd
  refine wpAny_call (make_map (f := f) I.kIn M.makes M.init (beq_iff_eq.mp M.fn) (codeAny_mono (F.run _ (hr.make C us []) ng X.stack _ _ ⟨Value.ref (s.heap.objs.size + 1) :: us, []⟩ (Value.ref (s.heap.objs.size + 1) :: us) _ _ E
    (I2.env0.make C us []) bnd both want) fun res s' got => ?_))
  cases res with
  | error er => exact hx _ _ _ er s' I2 got
  | ok flow => cases flow with
    | ret u =>
      obtain ⟨v, H', I3, rv, ev, q3⟩ := I2.after got
      subst ev
      exact ⟨rv, ⟨V.ref (s.heap.objs.size + 1), H', I3, rfl, q3⟩⟩
    | next => exact got.elim
    | brk => exact got.elim
    | cont => exact got.elim
end
/-! ### self under construction -/
theorem putF_snoc {f : Str} {v : V} : ∀ {ns : List Str} {xs : List V}, ns.length = xs.length → f ∉ ns → putF f v (ns.zip xs) = (ns ++ [f]).zip (xs ++ [v])
  | [], [], _, _ => rfl
  | n :: ns, x :: xs, h, hn => by
    have h' : ns.length = xs.length := by simpa using h
    have hn' : ¬ n = f := fun z => hn (by rw [z]; exact List.mem_cons_self)
    show (if n = f then _ else (n, x) :: putF f v (ns.zip xs)) = _
    rw [if_neg hn', putF_snoc h' fun z => hn (List.mem_cons_of_mem _ z)]
    rfl
section
variable {c : Ct} {Hb Hd0 H0 : Hp} {σ σ' : L2.St} {Γ Γ' : List Sk} {Hd H Hd' H' : Hp} {n n' m : Nat} {i : Nat}
theorem Ok.writeSlf (o : Ok c Hb Hd0 H0 σ Γ Hd H n) {l x C dx : Addr} {ns ns' : List Str} {ds es : List D} {vs : List V} (hi : Γ[i]? = some (.slf x C dx ns ds)) (hs : σ[i]? = some (some (.ref l))) (hl' : ns'.length = vs.length) (r : Reps c.K Hd vs es) :
    Ok c Hb Hd0 H0 σ (Γ.set i (.slf x C dx ns' es)) Hd (upd H l (.ins C dx (ns'.zip vs))) n := by
  obtain ⟨l', ws, e, h1, hz, h2, h3, ne⟩ := o.sr.ok i _ _ hs hi
  cases e
  have hl : i < Γ.length := (List.getElem?_eq_some_iff.mp hi).1
  have f0 := o.fr i _ _ hi rfl hs
  refine ⟨o.b, o.s0, o.g.write f0 h2 (pl_some h1 rfl), ⟨by rw [List.length_set]; exact o.sr.len, fun j o' k q1 q2 => ?_, fun j j' k1 k2 b nj q1 o1 q2 o2 e1 e2 => ?_⟩, o.pe.write ne (pl_some h1 rfl), fun j k b q1 o1 q3 => ?_⟩
  · by_cases e : i = j
    · subst e
      rw [List.getElem?_set_self hl] at q2; cases q2
      rw [hs] at q1; cases q1
      exact ⟨l, vs, rfl, upd_same, ⟨hl', hz.2⟩, h2, r, ne⟩
    · rw [List.getElem?_set_ne e] at q2
      have old := o.sr.ok j _ _ q1 q2
      cases k with
      | own _ =>
        obtain ⟨l2, w2, e2, b1, b2⟩ := old
        subst e2
        have nl : l2 ≠ l := fun z => by subst z; exact o.sr.ap i j _ _ _ e hi rfl q2 rfl hs q1
        exact ⟨l2, w2, rfl, by rw [upd_ne nl]; exact b1, b2⟩
      | ow _ _ =>
        obtain ⟨l2, w2, e2, b1, b2⟩ := old
        subst e2
        have nl : l2 ≠ l := fun z => by subst z; exact o.sr.ap i j _ _ _ e hi rfl q2 rfl hs q1
        exact ⟨l2, w2, rfl, by rw [upd_ne nl]; exact b1, b2⟩
      | odk _ _ =>
        obtain ⟨l2, w2, e2, b1, b2⟩ := old
        subst e2
        have nl : l2 ≠ l := fun z => by subst z; exact o.sr.ap i j _ _ _ e hi rfl q2 rfl hs q1
        exact ⟨l2, w2, rfl, by rw [upd_ne nl]; exact b1, b2⟩
      | slf _ _ _ _ _ =>
        obtain ⟨l2, w2, e2, b1, b2⟩ := old
        subst e2
        have nl : l2 ≠ l := fun z => by subst z; exact o.sr.ap i j _ _ _ e hi rfl q2 rfl hs q1
        exact ⟨l2, w2, rfl, by rw [upd_ne nl]; exact b1, b2⟩
      | _ => exact old
  · have back : ∀ {j : Nat} {k : Sk}, (Γ.set i (.slf x C dx ns' es))[j]? = some k → k.isOwn = true → ∃ k', Γ[j]? = some k' ∧ k'.isOwn = true := fun {j k} q oq => by
      by_cases e : i = j
      · subst e; exact ⟨_, hi, rfl⟩
      · rw [List.getElem?_set_ne e] at q; exact ⟨_, q, oq⟩
    obtain ⟨k1', a1, b1⟩ := back q1 o1
    obtain ⟨k2', a2, b2⟩ := back q2 o2
    exact o.sr.ap j j' k1' k2' b nj a1 b1 a2 b2 e1 e2
  · by_cases e : i = j
    · subst e
      exact o.fr i _ b hi rfl q3
    · rw [List.getElem?_set_ne e] at q1
      exact o.fr j k b q1 o1 q3
end
def SlfAt (Γ : List Sk) (i : Nat) (ω : Addr → Addr → Addr → List Str → List D → Prop) : Prop := match Γ[i]? with | some (.slf x C dx ns ds) => ω x C dx ns ds | _ => False
@[simp] theorem slfAt_0 {Γ : List Sk} {x C dx : Addr} {ns : List Str} {ds : List D} {ω : Addr → Addr → Addr → List Str → List D → Prop} : SlfAt (.slf x C dx ns ds :: Γ) 0 ω = ω x C dx ns ds := rfl
@[simp] theorem slfAt_s {Γ : List Sk} {s : Sk} {i : Nat} {ω : Addr → Addr → Addr → List Str → List D → Prop} : SlfAt (s :: Γ) (i + 1) ω = SlfAt Γ i ω := rfl
theorem slfAt_get {Γ : List Sk} {i : Nat} {ω : Addr → Addr → Addr → List Str → List D → Prop} (h : SlfAt Γ i ω) : ∃ x C dx ns ds, Γ[i]? = some (.slf x C dx ns ds) ∧ ω x C dx ns ds := by
  unfold SlfAt at h
  split at h
  · rename_i x C dx ns ds e; exact ⟨x, C, dx, ns, ds, e, h⟩
  · exact h.elim
section
variable {K : PySem.W.Frag} {E : XK}
/-- self.f = e in __init__ -/
def WS.fld (i : Nat) (f : Str) (e : WE K E) : WS K E := ⟨sFld K (tVar i) e.t f, e.m, fun χ Γ W => e.w χ Γ fun d => SlfAt Γ i fun x C dx ns ds => Cls K C ∧ NoAttr K C f ∧ f ∉ ns ∧ ns.length < 900 ∧ W.N (Γ.set i (.slf x C dx (ns ++ [f]) (ds ++ [d]))), fun {p χ Γ W} h Hb Hd0 H0 σ Hd H n o l x En k1 k2 k3 k4 => by
  refine e.ok h σ Hd H n o.sr o.g.s o.pe l (x.grow o.g) _ fun v d Hd1 H1 g1 pe1 hS r => ?_
  obtain ⟨y, C, dx, ns, ds, e1, c, na, nf, hn, w⟩ := slfAt_get hS
  have o1 := o.grow g1 pe1
  obtain ⟨o', hs, a, vs, eo, q1, q2, q3, q4, ne⟩ := o1.sr.get e1
  subst eo
  refine ⟨_, hs, a, C, dx, _, rfl, q1, c, na, by rw [List.length_zip]; omega, ?_⟩
  rw [putF_snoc q2.1 nf]
  exact k1 _ _ _ _ w (o1.writeSlf e1 hs (by simp [q2.1]) (q4.append (.cons r .nil)))⟩
theorem w_fld {i : Nat} {f : Str} {e : WE K E} {χ : Xq} {Γ : List Sk} {W : Wh} : (WS.fld i f e).w χ Γ W = e.w χ Γ fun d => SlfAt Γ i fun x C dx ns ds => Cls K C ∧ NoAttr K C f ∧ f ∉ ns ∧ ns.length < 900 ∧ W.N (Γ.set i (.slf x C dx (ns ++ [f]) (ds ++ [d]))) := rfl
/-- o.f of a finished object -/
def WE.fldR (f : Str) (e : WE K E) : WE K E := ⟨tFld K e.t f, e.m, fun χ Γ φ => e.w χ Γ fun x => ∃ C ns ds y, x = .obj C ns ds ∧ Cls K C ∧ NoAttr K C f ∧ lookD ns ds f = some y ∧ φ y, fun {p χ Γ φ} h σ Hd H n s sa pe l x Q q =>
  e.ok h σ Hd H n s sa pe l x _ fun v d' Hd1 H1 g1 pe1 ⟨C, ns, ds, y, e1, c, na, e4, f1⟩ r => by
    subst e1
    cases r with
    | obj h1 h2 h3 =>
      obtain ⟨v, q1, q2⟩ := look_zip h3 e4
      exact ⟨_, _, _, _, v, rfl, g1.s _ _ h1, c, na, q1, q v y Hd1 H1 g1 pe1 f1 q2⟩⟩
theorem w_fldR {f : Str} {e : WE K E} {χ : Xq} {Γ : List Sk} {φ : D → Prop} : (WE.fldR f e).w χ Γ φ = e.w χ Γ fun x => ∃ C ns ds y, x = .obj C ns ds ∧ Cls K C ∧ NoAttr K C f ∧ lookD ns ds f = some y ∧ φ y := rfl
end
/-! ### __init__ and C(..) -/
/-- what __init__ of the class at C, whose fields are ns, keeps -/
def SpNew (K : PySem.W.Frag) (C : Addr) (ns : List Str) (pre : List D → Prop) (post : List D → List D → Prop) (χ : List D → Xq) : Sp := fun vs H Q E => ∃ (x dx : Addr) (ws : List V) (Hd : Hp) (ds : List D), vs = .ref x :: ws ∧ H x = some (.ins C dx []) ∧ Hd x = none ∧ Same Hd H ∧ Reps K Hd ws ds ∧ pre ds ∧
  (∀ (xs : List V) (es : List D) (Hd' H' : Hp), Grow none Hd (del H x) Hd' H' → Hd' x = none → H' x = some (.ins C dx (ns.zip xs)) → ns.length = xs.length → Reps K Hd' xs es → post ds es → Q .non H') ∧
  ∀ C' fx fs Hd' H', Grow none Hd (del H x) Hd' H' → χ ds C' fs → XAt K Hd' H' fx fs → E (.ref C') (some fx) H'
def GS (N : List Str) (x C dx : Addr) (ds : List D) : List Sk := .slf x C dx [] [] :: (ds.map .dat ++ List.replicate (N.length - 1 - ds.length) .un)
theorem GS_own {N : List Str} {x C dx : Addr} {ds : List D} {i : Nat} {k : Sk} (h : (GS N x C dx ds)[i]? = some k) (ho : k.isOwn = true) : i = 0 := by
  cases i with
  | zero => rfl
  | succ i =>
    have h' : (G1 N ds)[i + 1]? = some k := h
    rw [G1_own h'] at ho; cases ho
theorem sr_startS {K : PySem.W.Frag} {x C dx : Addr} {Hd H : Hp} {N : List Str} {vs : List V} {ds : List D} (r : Reps K Hd vs ds) (hx : H x = some (.ins C dx [])) (hd : Hd x = none) : SR K none Hd H (L2.start N (.ref x :: vs)) (GS N x C dx ds) := by
  have hl := r.length
  have e : L2.start N (.ref x :: vs) = some (.ref x) :: L2.start (N.drop 1) vs := by
    unfold L2.start
    simp only [List.map_cons, List.cons_append, List.length_cons, List.length_drop]
    congr 3
    omega
  have e2 : GS N x C dx ds = .slf x C dx [] [] :: G0 (N.drop 1) ds := by unfold GS G0; rw [List.length_drop]
  rw [e, e2]
  have s := sr_start (K := K) (p := none) (Hd := Hd) (H := H) (N := N.drop 1) r
  refine ⟨by rw [List.length_cons, List.length_cons, s.len], fun i o k h1 h2 => ?_, fun i j k1 k2 l ne h1 o1 h2 o2 => ?_⟩
  · cases i with
    | zero => cases h1; cases h2; exact ⟨x, [], rfl, hx, ⟨rfl, rfl⟩, hd, .nil, by show (none : Option Addr) ≠ some x; simp⟩
    | succ i => exact s.ok i o k h1 h2
  · cases i with
    | zero => cases j with
      | zero => exact absurd rfl ne
      | succ j => rw [G0_own (show (G0 (N.drop 1) ds)[j]? = some k2 from h2)] at o2; cases o2
    | succ i => rw [G0_own (show (G0 (N.drop 1) ds)[i]? = some k1 from h1)] at o1; cases o1
section
variable {P : Program} {w : World} {K : PySem.W.Frag} {mg : Str → Option Value} {base : Heap} {qual : Str} {st : Stmt} {fI C : Addr} {fd : FuncData} {N ps ns : List Str} {k : Nat} {pre : List D → Prop} {post : List D → List D → Prop} {χ : List D → Xq}
theorem fnNew (T : ∀ E : XK, WS K E) (F : FunV K "__init__" qual st fI fd) (S : FnScope N ps (defScope st)) (hl : ∀ ds, pre ds → ds.length + 1 = ps.length)
    (hb : ∀ (f : Addr) (cdv : Value) (A : Around) (outer : List Env) (s : Shared) (H : Hp) (E : XK), Room k (A.deeper (envOfC qual (defScope st) s.heap.objs.size f cdv)) → NoG (A.deeper (envOfC qual (defScope st) s.heap.objs.size f cdv)) →
      ∃ t, PSs (cxOf (L2.CX P w) P w K mg base N qual (defScope st) f cdv A outer s H E) (defBody st) t ∧ t = (T E).t) (hm : ∀ E, (T E).m = 0)
    (hw : ∀ E x dx ds, pre ds → (T E).w (χ ds) (GS N x C dx ds) { N := fun G => ∃ es, G[0]? = some (.slf x C dx ns es) ∧ post ds es, R := fun _ => False, B := fun _ => False, C := fun _ => False }) : FnG P w K mg base (L2.CX P w) (k + 1) fI fd ps (SpNew K C ns pre post χ) := by
  refine fng_of F S (fun vs H Q E h => ?_) (fun cdv A outer s H vs Q E hr ng h => ?_)
  · obtain ⟨x, dx, ws, Hd, ds, rfl, _, _, _, r, hp, _⟩ := h
    rw [List.length_cons, r.length, hl ds hp]
  · obtain ⟨x, dx, ws, Hd, ds, rfl, hx, hdx, sa, r, hp, q, qx⟩ := h
    have sd : Same Hd (del H x) := fun b o e => by
      have nb : b ≠ x := fun z => by subst z; rw [hdx] at e; cases e
      rw [del_ne nb]; exact sa _ _ e
    have out : ∀ b o, del H x b = some o → H b = some o := fun b o e => by
      by_cases z : b = x
      · subst z; rw [del_same] at e; cases e
      · rw [del_ne z] at e; exact e
    have g0 : Grow none Hd (del H x) Hd H := ⟨Same.refl _, fun b o _ _ e => out b o e, sa, fun _ _ z => z, (fun b e => by
      by_cases z : b = x
      · subst z; rw [hx]; exact fun y => nomatch y
      · rw [del_ne z] at e; exact e), fun z => z.ext out⟩
    refine ⟨(T E).t, (hb fI cdv A outer s H E hr ng).elim fun t h => h.2 ▸ h.1, (T E).ok (p := none) (χ := χ ds) (hw E x dx ds hp) Hd Hd (del H x) _ Hd H 0 ⟨Same.refl _, sd, g0, sr_startS r hx hdx, True.intro, fun i k' l h1 h2 h3 => ?_⟩ (by rw [hm E]; decide) (fun C' fx fs Hd' H' g hh xa => qx C' fx fs Hd' H' g hh xa) _ ?_ ?_ ?_ ?_⟩
    · have e0 := GS_own h1 h2
      subst e0
      have e1 : (L2.start N (.ref x :: ws))[0]? = some (some (.ref x)) := rfl
      rw [e1] at h3
      cases h3
      exact del_same
    · intro Γ' σ' Hd' H' hN o
      obtain ⟨es, e1, hp'⟩ := hN
      obtain ⟨o', hs, a, vs, eo, q1, q2, q3, q4, ne⟩ := o.sr.get e1
      obtain ⟨q2, rfl⟩ := q2
      exact q vs es Hd' H' o.g q3 q1 q2 q4 hp'
    · intro _ _ _ _ z; exact z.elim
    · intro _ _ _ _ z; exact z.elim
    · intro v d Hd' H' z; exact z.elim
end
/-- a class that may be made by its name -/
structure MakX (P : Program) (w : World) (K : PySem.W.Frag) (mg : Str → Option Value) (base : Heap) (x : Str) (k : Nat) (C : Addr) (sp : Sp) : Prop where
  ex : ∃ f fd ps, Mk K C f ∧ FnG P w K mg base (L2.CX P w) k f fd ps sp ∧ mg x = some (.ref C) ∧ Binds K fd ps []
def tMakeSD (C : Addr) (sp : Sp) (E : L2.St → XK) (t : TA) : TE := fun σ H Q => t σ H fun vs H1 => ∀ x dx, H1 x = none → H1 dx = none → dx ≠ x → sp (.ref x :: vs) (upd (upd H1 dx (.own x)) x (.ins C dx [])) (fun v H2 => v = .non ∧ Q (.ref x) H2) (E σ)
theorem peg_makX {X : Cx} {k j : Nat} {C : Addr} {sp : Sp} {x : Str} {p pos : Pos} {e : Expr} {es : List Expr} {t : TA} {W : WX} (M : MakX X.prog X.w X.K X.mg X.base x j C sp) (hr : Room k X.A) (hj : j + 1 ≤ k) (ng : NoG X.A) (hg : Gl X x) (tk : Takes X W) (ha : PA X (e :: es) t)
    (h1 : (x == ("__debug__" : Str)) = false := by decide) (h2 : starEach (e :: es) X.env = (false, eval e X.env) :: starEach es X.env := by rfl) (h3 : (backTo pos (starEach es X.env)).any (·.1) = false := by rfl) : PE X (.Call (.Name x p) (e :: es) [] pos) (tMakeSD C sp (L2.WE W) t) := by
  obtain ⟨f, fd, ps, m, F, hm, hb⟩ := M.ex
  refine ⟨fun pins s σ H Q I h => ?_⟩
  refine wpAny_Call_Name_kw (ld_glob I hg hm ?_ h1)
  refine PySem.W.callWith_K (h₀ := X.base) I.ok.mod.kin m.kp (thn (ha.run pos pins s σ H _ I h) fun us s1 ⟨vs, H1, I1, r, q⟩ => ⟨I1.kIn, ?_⟩) h2 h3
  exact rungM m F (hr.mono hj) ng hb (passAt tk σ) I1 r q
theorem Grow.onto {p : Option Addr} {Hd H H1 Hd' H' : Hp} (sa : Same Hd H) (e : Same H H1) (g : Grow none Hd H1 Hd' H') : Grow p Hd H Hd' H' :=
  ⟨g.d, fun b o _ _ z => g.h b o (by simp) (.inl rfl) (e _ _ z), g.s, fun a n z => g.f a (fun y => by
    cases q : H a with
    | none => exact n q
    | some o => rw [e _ _ q] at y; cases y) z, (fun a n => g.m a fun y => by
    cases q : H a with
    | none => exact n q
    | some o => rw [e _ _ q] at y; cases y), fun z => g.t (z.ext e)⟩
section
variable {K : PySem.W.Frag} {E : XK}
/-- C(..), C an own class: may raise -/
def WE.mkX (C : Addr) (ns : List Str) (pre : List D → Prop) (post : List D → List D → Prop) (χ' : List D → Xq) (a : WA K E) : WE K E := ⟨tMakeSD C (SpNew K C ns pre post χ') (fun _ => E) a.t, a.m, fun χ Γ φ => a.w χ Γ fun ds => pre ds ∧ (∀ es, post ds es → φ (.obj C ns es)) ∧ ∀ C' fs, χ' ds C' fs → χ C' fs, fun {p χ Γ φ} h σ Hd H n s sa pe l x Q q => by
  refine a.ok h σ Hd H n s sa pe l x _ fun vs ds Hd1 H1 g1 pe1 ⟨f1, f2, f3⟩ r y dx hy hdx hne => ?_
  have hd1 : Hd1 y = none := g1.s.free hy
  have up : Same H1 (upd (upd H1 dx (.own y)) y (.ins C dx [])) := fun b o e => by rw [upd_ne (ne_of_none e hy), upd_ne (ne_of_none e hdx)]; exact e
  have upd' : Same H1 (del (upd (upd H1 dx (.own y)) y (.ins C dx [])) y) := fun b o e => by rw [del_ne (ne_of_none e hy)]; exact up _ _ e
  refine ⟨y, dx, vs, Hd1, ds, rfl, upd_same, hd1, g1.s.trans up, r, f1, fun xs es Hd' H' g hn hx hl rx hp => ⟨rfl, ?_⟩, fun C' fx fs Hd' H' g hh xa => ?_⟩
  · have G0 : Grow none Hd1 H1 Hd' H' := Grow.onto g1.s upd' g
    have me : Same Hd' (L2.upd Hd' y (.ins C dx (ns.zip xs))) := fun b o e => by rw [upd_ne (ne_of_none e hn)]; exact e
    have G : Grow none Hd1 H1 (L2.upd Hd' y (.ins C dx (ns.zip xs))) H' := ⟨G0.d.trans me, G0.h, fun b o e => by
      by_cases z : b = y
      · subst z; rw [upd_same] at e; cases e; exact hx
      · rw [upd_ne z] at e; exact G0.s _ _ e, fun a n z => by
      have na : a ≠ y := fun w => by subst w; exact n hy
      rw [upd_ne na]; exact G0.f a n z, G0.m, G0.t⟩
    exact q _ _ _ H' (g1.trans G.up) (pe1.grow G) (f2 es hp) (.obj upd_same hl (rx.mono me))
  · exact x C' fx fs Hd' H' (g1.trans (Grow.onto g1.s upd' g)) (f3 C' fs hh) xa⟩
theorem w_mkX {C : Addr} {ns : List Str} {pre : List D → Prop} {post : List D → List D → Prop} {χ' : List D → Xq} {a : WA K E} {χ : Xq} {Γ : List Sk} {φ : D → Prop} : (WE.mkX C ns pre post χ' a).w χ Γ φ = a.w χ Γ fun ds => pre ds ∧ (∀ es, post ds es → φ (.obj C ns es)) ∧ ∀ C' fs, χ' ds C' fs → χ C' fs := rfl
end
/-! ### == by an own __eq__ -/
structure EqC (K : PySem.W.Frag) (C f : Addr) : Prop where
  eq : PySem.W.findIn K (.ref C) "__eq__" = some (some (.ref f))
  fn : PySem.W.isFn K (.ref f) = true
  it : PySem.W.subIn K (.type "int") (.ref C) = some false
  tt : PySem.W.subIn K (.type "tuple") (.ref C) = some false
/-- what may stand beside an object of the class: an int, an object of the class, a tuple -/
def YOk (K : PySem.W.Frag) (C : Addr) (H : Hp) (y : V) : Prop := (∃ i, y = .int i) ∨ (∃ b dy gs, y = .ref b ∧ H b = some (.ins C dy gs)) ∨ ∃ b xs, y = .ref b ∧ SqT K H b xs
def rEqO (K : PySem.W.Frag) (C : Addr) (sp : Sp) : R2 := fun x y H Q => ∃ a dx fs, x = .ref a ∧ H a = some (.ins C dx fs) ∧ YOk K C H y ∧ sp [x, y] H (fun v H' => (∃ b, v = .bl b) ∧ Q v H') L2.E0
section
variable {X : Cx} {C f : Addr} {k : Nat} {fd : FuncData} {ps : List Str} {sp : Sp}
theorem yType (M : EqC X.K C f) {pins : List (Addr × Obj)} {σ : L2.St} {H : Hp} {s : Shared} {y : V} {u : Value} (I : L2.Inv X pins σ H s) (hy : YOk X.K C H y) (r : RelV y u) : ∃ tb, PySem.W.Looks (model X.prog X.w) s.heap (typeOf u) tb ∧ PySem.W.notFirst X.K C tb = true := by
  rcases hy with ⟨i, rfl⟩ | ⟨b, dy, gs, rfl, hb⟩ | ⟨b, xs, rfl, hb⟩
  · obtain ⟨t, rfl⟩ := r
    exact ⟨.type "int", .of_pure rfl, by unfold PySem.W.notFirst; rw [M.it]; simp⟩
  · cases r
    obtain ⟨mB, J, _⟩ := ins_get I.hok hb
    obtain ⟨od, J, _⟩ := J.look
    exact ⟨.ref C, J.type, by simp [PySem.W.notFirst]⟩
  · cases r
    obtain ⟨its, _, ⟨o, ho, hc, _⟩, _⟩ := I.tuple hb
    exact ⟨.type "tuple", (PySem.W.Looks.ld ho).andThen (by rw [hc]; exact .now), by unfold PySem.W.notFirst; rw [M.tt]; simp⟩
theorem op_eqO (M : EqC X.K C f) (F : FnG X.prog X.w X.K X.mg X.base CX0 k f fd ps sp) (hr : Room k X.A) (ng : NoG X.A) (hb : Binds X.K fd ps []) : OpR X (compareOp .Eq) (rEqO X.K C sp) := by
  intro pins s σ H x y v u Q I rx ry hq
  obtain ⟨a, dx, fs, rfl, ha, hy, want⟩ := hq
  cases rx
  obtain ⟨mA, J, _⟩ := ins_get I.hok ha
  obtain ⟨od, J, _⟩ := J.look
  obtain ⟨m, hF⟩ := I.fr
  obtain ⟨tb, t1, t2⟩ := yType M I hy ry
  have both : Vals [V.ref a, y] [Value.ref a, u] := .cons rfl (.cons ry .nil)
  have same : ([Value.ref a, u] ++ []).length = ps.length := by
    rw [List.append_nil, ← both.length]; exact F.len _ _ _ _ want
  have bnd := hb s [Value.ref a, u] I.kIn same
  rw [List.append_nil] at bnd
  show wpAny (model X.prog X.w) X.A (richCompare .Eq (.ref a) u) (EP X pins σ Q) X.xe s
  refine PySem.W.cmp_K (op := .Eq) (tb := tb) hr.units0 hF I.ok.mod.kin J t1 t2 M.eq M.fn ?_
  refine wpAny_call (codeAny_mono (F.run X.A hr ng X.stack s H ⟨[.ref a, u], []⟩ _ _ _ L2.E0 I.env0 bnd both want) fun res s' got => ?_)
  cases res with
  | error er => exact pass0 pins σ H s er s' I got
  | ok flow => cases flow with
    | ret w =>
      obtain ⟨z, H', I', rz, ⟨b, ez⟩, q⟩ := I.after got
      subst ez
      cases rz
      exact ⟨.bl b, H', I', rfl, q⟩
    | next => exact got.elim
    | brk => exact got.elim
    | cont => exact got.elim
end
/-- the class has no __ne__ of its own -/
structure NeC (K : PySem.W.Frag) (C f : Addr) : Prop where
  ex : ∃ (nm q : Str) (N : Addr) (bs : List Value) (hdct : Bool) (sn : List Str) (sub : List Value) (ab : Bool) (col : Option Bool) (dd : Option Addr) (k0 k1 k2 k3 k5 : Option Value) (newId : String) (es : Array DictEntry) (ep : Nat) (on : Obj),
    K.lookup C = some (excClassObj nm q C N bs [.type "object"] hdct sn sub ab col dd k0 k1 k2 k3 k5 newId) ∧ K.lookup N = some on ∧ on.data = .dict es ep ∧ StrKeys es ∧ nsFind es "__eq__" = some (.ref f) ∧ nsFind es "__ne__" = none
  fn : ∃ of, K.lookup f = some of ∧ of.cls = .type "function"
def rNeO (K : PySem.W.Frag) (C : Addr) (sp : Sp) : R2 := fun x y H Q => ∃ a dx fs b dy gs, x = .ref a ∧ H a = some (.ins C dx fs) ∧ y = .ref b ∧ H b = some (.ins C dy gs) ∧ sp [x, y] H (fun v H' => ∃ b, v = .bl b ∧ Q (.bl (!b)) H') L2.E0
theorem op_neO {X : Cx} {C f : Addr} {k : Nat} {fd : FuncData} {ps : List Str} {sp : Sp} (M : NeC X.K C f) (F : FnG X.prog X.w X.K X.mg X.base CX0 k f fd ps sp) (hr : Room (k + 1) X.A) (ng : NoG X.A) (hb : Binds X.K fd ps []) : OpR X (compareOp .NotEq) (rNeO X.K C sp) := by
  intro pins s σ H x y v u Q I rx ry hq
  obtain ⟨a, dx, fs, b, dy, gs, rfl, ha, rfl, hbb, want⟩ := hq
  cases rx
  cases ry
  obtain ⟨nm, q, N, bs, hdct, sn, sub, ab, col, dd, k0, k1, k2, k3, k5, newId, es, ep, on, lC, lN, dN, sk, eq, ne⟩ := M.ex
  obtain ⟨of, lf, cf⟩ := M.fn
  obtain ⟨mA, J, _⟩ := ins_get I.hok ha
  obtain ⟨od, J, _⟩ := J.look
  obtain ⟨mB, J', _⟩ := ins_get I.hok hbb
  obtain ⟨od', J', _⟩ := J'.look
  have both : Vals [V.ref a, V.ref b] [Value.ref a, Value.ref b] := .cons rfl (.cons rfl .nil)
  have same : ([Value.ref a, Value.ref b] ++ []).length = ps.length := by
    rw [List.append_nil, ← both.length]; exact F.len _ _ _ _ want
  have bnd := hb s [Value.ref a, Value.ref b] I.kIn same
  rw [List.append_nil] at bnd
  have own : s.heap.OwnEqNoNe a C f "object" [.type "object"] := ⟨_, of, nm, q, N, bs, hdct, sn, sub, ab, col, dd, k0, k1, k2, k3, k5, newId, nsFind es, _, J.at_, J.cls, I.kIn _ _ lC, ⟨on, es, ep, I.kIn _ _ lN, dN, sk, fun _ => rfl⟩, eq, I.kIn _ _ lf, cf, PySem.F.cmp_object.mro, by rfl, ne⟩
  refine compareOp_ne_ownEq PySem.F.cmp_object own J'.at_ J'.cls (hu_of hr) ?_
  have e0 : Env0 X.prog X.w X.K X.mg X.base X.A.in1 X.stack s H := by
    have e := I.env0
    exact ⟨e.frames, e.mod, e.bs, e.bsz, e.funs, e.frf, e.hok, e.bare⟩
  refine wpAny_call (codeAny_mono (F.run X.A.in1 hr.in1 ng X.stack s H ⟨[.ref a, .ref b], []⟩ _ _ _ L2.E0 e0 bnd both want) fun res s' got => ?_)
  cases res with
  | error er => exact pass0 pins σ H s er s' I got
  | ok flow => cases flow with
    | ret w =>
      obtain ⟨z, H', I', rz, b, ez, q⟩ := I.after got
      subst ez
      cases rz
      exact ⟨b, rfl, .bl (!b), H', I', rfl, q⟩
    | next => exact got.elim
    | brk => exact got.elim
    | cont => exact got.elim
/-! ### isinstance with an own class -/
structure IsC (K : PySem.W.Frag) (C : Addr) : Prop where
  ty : ∀ (H : Hp) (a dx : Addr) (fs : List (Str × V)), H a = some (.ins C dx fs) → TyOf K H (.ref a) (.ref C)
  kI : PySem.W.kitOne K (.type "int") (.ref C) = some false
  kT : PySem.W.kitOne K (.type "tuple") (.ref C) = some false
theorem kit_self {K : PySem.W.Frag} {C : Addr} : PySem.W.kitOne K (.ref C) (.ref C) = some true := by
  unfold PySem.W.kitOne
  rw [if_pos (by simp)]
/-- an object of the class, an int or a tuple: is it of the class? -/
def isCD (C : Addr) : D → Option Bool
  | .obj C' _ _ => if C' = C then some true else none
  | .int _ => some false
  | .tup _ => some false
  | _ => none
section
variable {K : PySem.W.Frag} {E : XK}
def WE.isC (C : Addr) (I : IsC K C) (a : WE K E) : WE K E := ⟨tCB (rIsi K) (tCons a.t (tCons (tC (.ref C)) tNil)), a.m, fun χ Γ φ => a.w χ Γ fun d => ∃ b, isCD C d = some b ∧ φ (.bl b), fun {p χ Γ φ} h σ Hd H n s sa pe l x Q q =>
  a.ok h σ Hd H n s sa pe l x _ fun v d Hd1 H1 g1 pe1 ⟨b, e, f⟩ r => by
    cases r with
    | @obj _ C' _ _ _ _ h1 h2 h3 =>
      have e' : (if C' = C then some true else none) = some b := e
      split at e'
      · rename_i z; cases e'; subst z
        exact ⟨_, _, _, _, true, rfl, .own _, .base (I.ty _ _ _ _ (g1.s _ _ h1)), kit_self, q _ _ Hd1 H1 g1 pe1 f (.bl _)⟩
      · cases e'
    | int i => cases e; exact ⟨_, _, _, _, false, rfl, .own _, rep_ty g1.s rfl (.int i), I.kI, q _ _ Hd1 H1 g1 pe1 f (.bl _)⟩
    | tup h1 h2 => cases e; exact ⟨_, _, _, _, false, rfl, .own _, rep_ty (d := .tup _) g1.s rfl (.tup h1 h2), I.kT, q _ _ Hd1 H1 g1 pe1 f (.bl _)⟩
    | _ => cases e⟩
theorem w_isC {C : Addr} {I : IsC K C} {a : WE K E} {χ : Xq} {Γ : List Sk} {φ : D → Prop} : (WE.isC C I a).w χ Γ φ = a.w χ Γ fun d => ∃ b, isCD C d = some b ∧ φ (.bl b) := rfl
def eqAble (C : Addr) : D → Bool
  | .obj C' _ _ => decide (C' = C)
  | .int _ => true
  | .tup _ => true
  | _ => false
/-- x == y by x's own __eq__ -/
def O2.eqO (C : Addr) (pre : List D → Prop) (post : List D → D → Prop) : O2 K := ⟨rEqO K C (SpP K pre post), fun x y φ => (∃ ns ds, x = .obj C ns ds) ∧ eqAble C y = true ∧ pre [x, y] ∧ ∀ d, post [x, y] d → (∃ b, d = .bl b) ∧ φ d, fun {p E χ a b φ} h x y Hd H s ra rb Q q => by
  obtain ⟨⟨ns, ds, rfl⟩, hy, hp, hq⟩ := h
  have ra' := ra
  cases ra with
  | obj h1 h2 h3 =>
    refine ⟨_, _, _, rfl, s _ _ h1, ?_, Hd, [.obj C ns ds, b], s, .cons ra' (.cons rb .nil), hp, fun v d Hd' H' g hd r => ?_⟩
    · cases rb with
      | int i => exact .inl ⟨i, rfl⟩
      | obj k1 k2 k3 =>
        have e := of_decide_eq_true (show decide (_ = C) = true from hy)
        subst e
        exact .inr (.inl ⟨_, _, _, rfl, s _ _ k1⟩)
      | tup k1 k2 => exact .inr (.inr ⟨_, _, rfl, same_sqt s k1⟩)
      | _ => cases hy
    · obtain ⟨⟨k, rfl⟩, f⟩ := hq d hd
      cases r
      exact ⟨⟨k, rfl⟩, q _ _ Hd' H' g f (.bl k)⟩⟩
/-- x != y, no __ne__ of its own -/
def O2.neO (C : Addr) (pre : List D → Prop) (post : List D → D → Prop) : O2 K := ⟨rNeO K C (SpP K pre post), fun x y φ => (∃ ns ds, x = .obj C ns ds) ∧ (∃ ns ds, y = .obj C ns ds) ∧ pre [x, y] ∧ ∀ d, post [x, y] d → ∃ b, d = .bl b ∧ φ (.bl (!b)), fun {p E χ a b φ} h x y Hd H s ra rb Q q => by
  obtain ⟨⟨ns, ds, rfl⟩, ⟨ms, es, rfl⟩, hp, hq⟩ := h
  have ra' := ra
  have rb' := rb
  cases ra with
  | obj h1 h2 h3 => cases rb with
    | obj k1 k2 k3 =>
      refine ⟨_, _, _, _, _, _, rfl, s _ _ h1, rfl, s _ _ k1, Hd, [.obj C ns ds, .obj C ms es], s, .cons ra' (.cons rb' .nil), hp, fun v d Hd' H' g hd r => ?_⟩
      obtain ⟨k, rfl, f⟩ := hq d hd
      cases r
      exact ⟨k, rfl, q _ _ Hd' H' g f (.bl _)⟩⟩
theorem q_eqO {C : Addr} {pre : List D → Prop} {post : List D → D → Prop} {x y : D} {φ : D → Prop} : (O2.eqO (K := K) C pre post).w x y φ = ((∃ ns ds, x = .obj C ns ds) ∧ eqAble C y = true ∧ pre [x, y] ∧ ∀ d, post [x, y] d → (∃ b, d = .bl b) ∧ φ d) := rfl
theorem q_neO {C : Addr} {pre : List D → Prop} {post : List D → D → Prop} {x y : D} {φ : D → Prop} : (O2.neO (K := K) C pre post).w x y φ = ((∃ ns ds, x = .obj C ns ds) ∧ (∃ ns ds, y = .obj C ns ds) ∧ pre [x, y] ∧ ∀ d, post [x, y] d → ∃ b, d = .bl b ∧ φ (.bl (!b))) := rfl
end
/-- what the written part says of an own class -/
structure OwnO (K : PySem.W.Frag) (mg : Str → Option Value) (x : Str) (C fI fE : Addr) (ns : List Str) : Prop where
  cl : Cls K C
  na : ∀ f ∈ ns, NoAttr K C f
  mak : Mk K C fI
  m : mg x = some (.ref C)
  eq : EqC K C fE
  ne : NeC K C fE
  is : IsC K C
end DL
set_option maxRecDepth 100000
set_option maxHeartbeats 4000000
/-! DLt: try with several clauses, each with a name for its error. -/
namespace DL
open PySem L2 PySem.Spec PyProof.Rows
variable [Tbl]
/-- what the clauses wish of an error of the body, one behind the other; a clause: class, slot of its name, suite -/
def wSome (K : PySem.W.Frag) (Wo : WX) (En : Ends) : List (Value × Nat × (Addr → Value → Option Addr → TS)) → WX
  | [] => Wo
  | (c, i, ts) :: r => fun cls d σ H => ∃ y, PySem.W.exmOne K cls c = some y ∧
      (y = true → ∀ e, H e = none → ts e cls d { nx := fun σ' H' => En.nx (σ'.set i none) H', rt := En.rt, bk := fun σ' H' => En.bk (σ'.set i none) H', ct := fun σ' H' => En.ct (σ'.set i none) H' } (σ.set i (some (.ref e))) H) ∧ (y = false → wSome K Wo En r cls d σ H)
inductive ClOk (X : Cx) : List ExceptHandler → List (Value × Nat × (Addr → Value → Option Addr → TS)) → Prop
  | nil : ClOk X [] []
  | cons {x n : Str} {c : Value} {i : Nat} {ts : Addr → Value → Option Addr → TS} {st : Stmt} {sts : List Stmt} {np cp : Pos} {hds : List ExceptHandler} {l : List (Value × Nat × (Addr → Value → Option Addr → TS))} (hc : Names X x c) (hi : X.N[i]? = some n) (hl : X.env.kindOf n = some .local)
      (su : ∀ (e : Addr) (oe : Obj) (cls : Value) (d : Option Addr) (pn : List (Addr × Obj)), Zc cls d oe → (∃ vs, oe.data = .fields vs) → PSs (X.suite e ((e, oe) :: pn)) (st :: sts) (ts e cls d)) (r : ClOk X hds l) :
      ClOk X (.ExceptHandler (some (.Name x np)) (some n) (st :: sts) cp :: hds) ((c, i, ts) :: l)
section
variable {X : Cx} {body : List Stmt} {hd : ExceptHandler} {hds : List ExceptHandler} {l : List (Value × Nat × (Addr → Value → Option Addr → TS))} {pos : Pos} {tb : WX → TS} {Wo : WX}
theorem ps_try_someAs (stk : X.stack = X.env :: X.outer) (fra : X.env.frame = some X.env.locals) (nod : X.N.Nodup) (tk : Takes X Wo)
    (tried : ∀ (W : WX) (pn : List (Addr × Obj)) (xe : Value → Shared → Prop), Takes (X.tr pn xe) W → PassesOwn (model X.prog X.w) X.A X.env xe → PSs (X.tr pn xe) body (tb W)) (cl : ClOk X (hd :: hds) l) :
    PS X (.Try body (hd :: hds) [] [] pos) (fun En σ H => tb (wSome X.K Wo En l) En σ H) := by
  refine ⟨fun pins st σ H En Iv wish => ?_⟩
  have okk := Iv.ok
  have frm : X.A.frames = some (X.env :: X.outer) := by rw [okk.frames, stk]
  refine wpAny_Try_except (wpAny_mono ((tried (wSome X.K Wo En l) (X.pn ++ pins) (fun er t1 => wpAny (model X.prog X.w) X.A (noteFrame er X.env) (fun _ t2 => wpAny (model X.prog X.w) X.A (setFlight er none) (fun _ t3 =>
    wpAny (model X.prog X.w) X.A (handleBy er X.env (hd :: hds)) (SP X pins En) X.xe t3) X.xe t2) X.xe t1) (fun u t' got => ?_) PassesOwn.looking).run [] st σ H En (Iv.toTry _) wish) (fun fl t1 hsp => ?_) (fun er t1 z => z))
  · obtain ⟨e, B, tI, pins', σ', H', cls, d, rfl, J', nb, up, sky, na, os, ag, want⟩ := got
    have J : L2.Inv X pins σ' H' tI := J'.ofTry okk
    have sky' : Sky B (X.env :: X.outer) e (Zc cls d) X.env.locals t'.heap := by rw [← stk]; exact sky
    show wpAny _ X.A (noteFrame (.ref e) X.env) _ _ _
    refine Sky.land Zc.steady frm fra sky' fun g3 land3 up3 => ?_
    have K3 : L2.Inv X pins σ' H' { t' with heap := g3 } := J.landed nb land3.1 (up.trans up3) os ag
    obtain ⟨o3, v3, at3, zc3, da3⟩ := land3.there
    have off : e ∉ frs (X.env :: X.outer) := fun mem => by
      obtain ⟨_, o', at', no⟩ := land3.2.2.1.mem mem
      rw [at3] at at'
      cases at'
      exact no _ da3
    have offL : e ≠ X.env.locals := fun z => off (List.mem_filterMap.mpr ⟨X.env, List.mem_cons_self, by rw [fra, z]⟩)
    have offF : e ∉ X.fs := fun mem => by
      obtain ⟨en, inn, eq⟩ := List.mem_filterMap.mp mem
      exact off (List.mem_filterMap.mpr ⟨en, List.mem_cons_of_mem _ inn, eq⟩)
    have T3 := K3.suite at3 da3 na offL offF
    have all : ∀ {hs' : List ExceptHandler} {l' : List (Value × Nat × (Addr → Value → Option Addr → TS))}, ClOk X hs' l' → wSome X.K Wo En l' cls d σ' H' → wpAny (model X.prog X.w) X.A (handleBy (.ref e) X.env hs') (SP X pins En) X.xe { t' with heap := g3 } := by
      intro hs' l' c'
      induction c' with
      | nil =>
        intro out
        refine wpAny_handleBy_nil ?_
        obtain ⟨_, _, _, o4, v4, Tb, oT, ts', at4, zc4, da4, f1, _⟩ := id land3
        unfold PySem.passOn
        refine wpAny_bind (wpAny_field at4 da4 f1 ?_)
        rw [if_neg (show ¬ (Value.ref Tb == Value.none) = true from by simp)]
        have last : wpAny (model X.prog X.w) X.A (setFlight (.ref e) X.env.frame) (fun _ t4 => wpAny (model X.prog X.w) X.A (throw (.ref e) : Sem Flow) (SP X pins En) X.xe t4) X.xe { t' with heap := g3 } := by
          rw [fra]
          exact HandSPX.setFlight_upZ land3 fun g4 at4' up4 => wpAny_throw (tk _ _ ⟨e, B, tI, pins, σ', H', cls, d, rfl, J, nb, (up.trans up3).trans up4, .inr (.inr (by rw [stk]; exact at4')), na, os, ag, out⟩)
        first | exact wpAny_bind (wpAny_pure (wpAny_bind last)) | exact wpAny_bind last
      | @cons x n c i ts s0 sts np cp hs2 l2 hc hi hl su r again =>
        intro w
        obtain ⟨y, ask, yes, no⟩ := w
        refine wpAny_handleBy_cons (codeAny_handlers_test ?_) (fun z => nomatch z)
        have look : PySem.W.Looks (model X.prog X.w) g3 (typeOf (.ref e)) cls := fun _ _ _ t5 kp q5 => wpAny_typeOf_ref (kp _ _ at3) (by rw [zc3.1]; exact q5)
        have fits := PySem.W.exm_one (M := model X.prog X.w) K3.kIn look ask
        have named : ∀ {Q : Value → Shared → Prop} {E : Value → Shared → Prop}, Q c { t' with heap := g3 } → wpAny (model X.prog X.w) (X.A.mark (some (.ref e))) (eval (.Name x np) X.env) Q E { t' with heap := g3 } := fun {Q E} q => by
          obtain ⟨g1, g2, m1 | ⟨m1, m2, m3⟩⟩ := hc
          · exact ld_glob (X := X.suite e ((e, o3) :: (X.pn ++ pins))) T3 g1 m1 q g2
          · exact ld_blt (X := X.suite e ((e, o3) :: (X.pn ++ pins))) T3 g1 m1 m2 q m3 g2
        refine named (fits.here ?_)
        cases y with
        | false => exact again (no rfl)
        | true =>
          refine codeAny_handlers_suite_as (HandSPX.lands_againZ land3 fun g4 land4 up4 => ?_)
          have K4 : L2.Inv X pins σ' H' { t' with heap := g4 } := J.landed nb land4.1 ((up.trans up3).trans up4) os ag
          obtain ⟨o4, v4, at4, zc4, da4⟩ := land4.there
          have T4 := K4.suite at4 da4 na offL offF
          refine store_ok (X := X.suite e ((e, o4) :: (X.pn ++ pins))) (v := .ref e) T4 nod hi (.inl hl) rfl (fun t5 T5 => ?_) (.inr hl)
          refine wpAny_mono ((su e o4 cls d (X.pn ++ pins) zc4 ⟨_, da4⟩).run [] t5 _ H' _ T5 (yes rfl e na)) (fun fl t6 hsp => ?_) (fun _ _ z => z.elim)
          have gone : ∀ {σ6 : L2.St} {H6 : Hp} {Q : Shared → Prop}, L2.Inv (X.suite e ((e, o4) :: (X.pn ++ pins))) [] σ6 H6 t6 → (∀ t7, L2.Inv X pins (σ6.set i none) H6 t7 → Q t7) →
              wpAny (model X.prog X.w) X.A (do bindName X.env n .none; unbindBehindTheSuite X.env n cp) (fun _ t7 => Q t7) X.xe t6 := fun {σ6 H6 Q} T6 q6 => gone_ok (T6.unsuite okk) nod hi hl q6
          cases fl with
          | ret u => obtain ⟨v6, σ6, H6, T6, r6, q6⟩ := hsp; exact gone T6 fun t7 J7 => ⟨_, _, _, J7, r6, q6⟩
          | next => obtain ⟨σ6, H6, T6, q6⟩ := hsp; exact gone T6 fun t7 J7 => ⟨_, _, J7, q6⟩
          | brk => obtain ⟨σ6, H6, T6, q6⟩ := hsp; exact gone T6 fun t7 J7 => ⟨_, _, J7, q6⟩
          | cont => obtain ⟨σ6, H6, T6, q6⟩ := hsp; exact gone T6 fun t7 J7 => ⟨_, _, J7, q6⟩
    exact all cl want
  · cases fl with
    | ret u => obtain ⟨v, σ', H', J', r, q⟩ := hsp; exact ⟨v, σ', H', J'.ofTry okk, r, q⟩
    | next => obtain ⟨σ', H', J', q⟩ := hsp; exact wpAny_execs_nil ⟨σ', H', J'.ofTry okk, q⟩
    | brk => obtain ⟨σ', H', J', q⟩ := hsp; exact ⟨σ', H', J'.ofTry okk, q⟩
    | cont => obtain ⟨σ', H', J', q⟩ := hsp; exact ⟨σ', H', J'.ofTry okk, q⟩
end
/-! ### the bundle -/
structure Cl (K : PySem.W.Frag) (E : XK) where
  c : Value
  i : Nat
  s : Addr → Value → Option Addr → WS K E
section
variable {K : PySem.W.Frag} {E : XK}
def clT (cl : List (Cl K E)) : List (Value × Nat × (Addr → Value → Option Addr → TS)) := cl.map fun q => (q.c, q.i, fun a cls d => (q.s a cls d).t)
/-- what the clauses ask of an error of the class C with the fields fs -/
def ChW (K : PySem.W.Frag) (χ : Xq) (Γ : List Sk) (W : Wh) : List (Cl K E) → Xq
  | [], C, fs => χ C fs
  | q :: r, C, fs => ∃ y, PySem.W.exmOne K (.ref C) q.c = some y ∧
      (y = true → ∀ x dx, (q.s x (.ref C) (some dx)).w χ (Γ.set q.i (.dat (.exc x dx (fs.map (·.1)) (fs.map (·.2))))) { N := fun G => W.N (G.set q.i .un), R := W.R, B := fun G => W.B (G.set q.i .un), C := fun G => W.C (G.set q.i .un) }) ∧ (y = false → ChW K χ Γ W r C fs)
theorem chW_nil {χ : Xq} {Γ : List Sk} {W : Wh} {C : Addr} {fs : List (Str × D)} : ChW (E := E) K χ Γ W [] C fs = χ C fs := rfl
theorem chW_cons {χ : Xq} {Γ : List Sk} {W : Wh} {C : Addr} {fs : List (Str × D)} {q : Cl K E} {r : List (Cl K E)} : ChW K χ Γ W (q :: r) C fs = ∃ y, PySem.W.exmOne K (.ref C) q.c = some y ∧
      (y = true → ∀ x dx, (q.s x (.ref C) (some dx)).w χ (Γ.set q.i (.dat (.exc x dx (fs.map (·.1)) (fs.map (·.2))))) { N := fun G => W.N (G.set q.i .un), R := W.R, B := fun G => W.B (G.set q.i .un), C := fun G => W.C (G.set q.i .un) }) ∧ (y = false → ChW K χ Γ W r C fs) := rfl
theorem chain_ok {p : Pn} {χ : Xq} {Γ : List Sk} {W : Wh} {En : Ends} {Hb Hd0 H0 Hd H : Hp} {σ : L2.St} {n m : Nat} (o : Ok ⟨K, p, E, χ⟩ Hb Hd0 H0 σ Γ Hd H n) (l : n + m ≤ LIM) (x : Xs ⟨K, p, E, χ⟩ Hd0 H0) (k1 : ∀ Γ' σ' Hd' H', W.N Γ' → Ok ⟨K, p, E, χ⟩ Hb Hd0 H0 σ' Γ' Hd' H' (n + m) → En.nx σ' H') (k2 : ∀ Γ' σ' Hd' H', W.B Γ' → Ok ⟨K, p, E, χ⟩ Hb Hd0 H0 σ' Γ' Hd' H' (n + m) → En.bk σ' H')
    (k3 : ∀ Γ' σ' Hd' H', W.C Γ' → Ok ⟨K, p, E, χ⟩ Hb Hd0 H0 σ' Γ' Hd' H' (n + m) → En.ct σ' H') (k4 : ∀ v d Hd' H', W.R d → Grow p.a Hd0 H0 Hd' H' → PenO p (n + m) Hd' H' → Rep K Hd' v d → En.rt v H')
    {C dx : Addr} {fs : List (Str × D)} (xa : XAt K Hd H dx fs) : ∀ {cl : List (Cl K E)}, (∀ q ∈ cl, ∀ a c d, (q.s a c d).m ≤ m) → ChW K χ Γ W cl C fs → wSome K (fun cls d _ H => E cls d H) En (clT cl) (.ref C) (some dx) σ H
  | [], _, f => x C dx fs Hd H o.g f xa
  | q :: r, hm, f => by
    obtain ⟨y, f1, f2, f3⟩ := f
    refine ⟨y, f1, fun yt a' ha => ?_, fun yf => chain_ok o l x k1 k2 k3 k4 xa (fun q hq => hm q (List.mem_cons_of_mem _ hq)) (f3 yf)⟩
    obtain ⟨xs, e1, e2⟩ := xa
    have hl : (fs.map (·.1)).length = xs.length := by rw [e2.length, List.length_map, List.length_map]
    have o2 := o.set (i := q.i) (v := .ref a') (d := .exc a' dx (fs.map (·.1)) (fs.map (·.2))) (.exc e1 hl e2)
    have hm' := hm q List.mem_cons_self a' (.ref C) (some dx)
    refine (q.s a' (.ref C) (some dx)).ok (f2 yt a' dx) Hb Hd0 H0 _ _ _ _ o2 (by omega) x _ ?_ ?_ ?_ ?_
    · intro Γ' σ' Hd' H' f o3; exact k1 _ _ _ _ f (o3.unset.more (by omega))
    · intro Γ' σ' Hd' H' f o3; exact k2 _ _ _ _ f (o3.unset.more (by omega))
    · intro Γ' σ' Hd' H' f o3; exact k3 _ _ _ _ f (o3.unset.more (by omega))
    · intro v d Hd' H' f g pe r; exact k4 _ _ _ _ f g (pe.more (by omega)) r
theorem make_at {p : Pn} {χ : Xq} {Γ : List Sk} {φ : D → Prop} {ξ : Xq} {C : Addr} {ns : List Str} {pre : List D → Prop} {post : List D → List D → Prop} {χ' : List D → Xq} {a : WA K E} {F : XK}
    (h : a.w χ Γ fun ds => pre ds ∧ (∀ es, post ds es → φ (.obj C ns es)) ∧ ∀ C' fs, χ' ds C' fs → ξ C' fs) {σ : L2.St} {Hd H : Hp} {n : Nat} (s : SR K p Hd H σ Γ) (sa : Same Hd H) (pe : PenO p n Hd H) (l : n + a.m ≤ LIM) (x : Xs ⟨K, p, E, χ⟩ Hd H) {Q : VK}
    (q : ∀ v d Hd' H', Grow p.a Hd H Hd' H' → PenO p (n + a.m) Hd' H' → φ d → Rep K Hd' v d → Q v H') (qx : ∀ C' fx fs Hd' H', Grow p.a Hd H Hd' H' → PenO p (n + a.m) Hd' H' → ξ C' fs → XAt K Hd' H' fx fs → F (.ref C') (some fx) H') :
    tMakeSD C (SpNew K C ns pre post χ') (fun _ => F) a.t σ H Q := by
  refine a.ok h σ Hd H n s sa pe l x _ fun vs ds Hd1 H1 g1 pe1 ⟨f1, f2, f3⟩ r y dx hy hdx hne => ?_
  have free : Hd1 y = none := g1.s.free hy
  have up : Same H1 (upd (upd H1 dx (.own y)) y (.ins C dx [])) := fun b o e => by rw [upd_ne (ne_of_none e hy), upd_ne (ne_of_none e hdx)]; exact e
  have out : Same H1 (del (upd (upd H1 dx (.own y)) y (.ins C dx [])) y) := fun b o e => by rw [del_ne (ne_of_none e hy)]; exact up _ _ e
  refine ⟨y, dx, vs, Hd1, ds, rfl, upd_same, free, g1.s.trans up, r, f1, fun xs es Hd' H' g hn hx hl rx hp => ⟨rfl, ?_⟩, fun C' fx fs Hd' H' g hh xa => ?_⟩
  · have G0 : Grow none Hd1 H1 Hd' H' := Grow.onto g1.s out g
    have me : Same Hd' (L2.upd Hd' y (.ins C dx (ns.zip xs))) := fun b o e => by rw [upd_ne (ne_of_none e hn)]; exact e
    have G : Grow none Hd1 H1 (L2.upd Hd' y (.ins C dx (ns.zip xs))) H' := ⟨G0.d.trans me, G0.h, fun b o e => by
      by_cases z : b = y
      · subst z; rw [upd_same] at e; cases e; exact hx
      · rw [upd_ne z] at e; exact G0.s _ _ e, fun a n z => by
      have na : a ≠ y := fun w => by subst w; exact n hy
      rw [upd_ne na]; exact G0.f a n z, G0.m, G0.t⟩
    exact q _ _ _ H' (g1.trans G.up) (pe1.grow G) (f2 es hp) (.obj upd_same hl (rx.mono me))
  · exact qx C' fx fs Hd' H' (g1.trans (Grow.onto g1.s out g)) (pe1.grow (Grow.onto g1.s out g)) (f3 C' fs hh) xa
/-- try: x = C(..) except C1 as n: .. except C2 as m: .. -/
def WS.tryMk (j : Nat) (C : Addr) (ns : List Str) (pre : List D → Prop) (post : List D → List D → Prop) (χ' : List D → Xq) (a : WA K E) (cl : List (Cl K E)) (m : Nat) (hm : ∀ q ∈ cl, ∀ a c d, (q.s a c d).m ≤ m) : WS K E :=
  ⟨fun En σ H => tAsg (tMakeSD C (SpNew K C ns pre post χ') (L2.WE (wSome K (fun cls d _ H => E cls d H) En (clT cl))) a.t) (gName j) En σ H, a.m + m,
   fun χ Γ W => a.w χ Γ fun ds => pre ds ∧ (∀ es, post ds es → W.N (Γ.set j (.dat (.obj C ns es)))) ∧ ∀ C' fs, χ' ds C' fs → ChW K χ Γ W cl C' fs,
   fun {p χ Γ W} h Hb Hd0 H0 σ Hd H n o l x En k1 k2 k3 k4 => by
    have go : tMakeSD C (SpNew K C ns pre post χ') (fun _ => fun cls d H' => wSome K (fun cls d _ H => E cls d H) En (clT cl) cls d σ H') a.t σ H fun v H' => En.nx (σ.set j (some v)) H' := by
      refine make_at (p := p) (χ := χ) (φ := fun d => W.N (Γ.set j (.dat d))) h o.sr o.g.s o.pe (by omega) (x.grow o.g) (fun v d Hd1 H1 g1 pe1 f r => ?_) fun C' fx fs Hd' H' g pe f xa => ?_
      · exact k1 _ _ _ _ f (((o.grow g1 pe1).set r).more (by omega))
      · exact chain_ok (n := n + a.m) (m := m) (o.grow g pe) (by omega) x (fun _ _ _ _ f o => k1 _ _ _ _ f (o.more (by omega))) (fun _ _ _ _ f o => k2 _ _ _ _ f (o.more (by omega))) (fun _ _ _ _ f o => k3 _ _ _ _ f (o.more (by omega))) (fun _ _ _ _ f g pe r => k4 _ _ _ _ f g (pe.more (by omega)) r) xa hm f
    exact go⟩
theorem w_tryMk {j : Nat} {C : Addr} {ns : List Str} {pre : List D → Prop} {post : List D → List D → Prop} {χ' : List D → Xq} {a : WA K E} {cl : List (Cl K E)} {m : Nat} {hm : ∀ q ∈ cl, ∀ a c d, (q.s a c d).m ≤ m} {χ : Xq} {Γ : List Sk} {W : Wh} : (WS.tryMk j C ns pre post χ' a cl m hm).w χ Γ W =
    a.w χ Γ fun ds => pre ds ∧ (∀ es, post ds es → W.N (Γ.set j (.dat (.obj C ns es)))) ∧ ∀ C' fs, χ' ds C' fs → ChW K χ Γ W cl C' fs := rfl
end
end DL
set_option maxRecDepth 100000
set_option maxHeartbeats 4000000
/-! DLl: a local list that is being changed is lent to a call whose answer holds no list. -/
namespace DL
open PySem L2 PySem.Spec PyProof.Rows
variable [Tbl]
mutual
def noLst : D → Bool
  | .lst _ => false
  | .tup ds => noLsts ds
  | .dct _ ds => noLsts ds
  | .dcf _ ds => noLsts ds
  | .dtf _ ds => noLsts ds
  | .obj _ _ ds => noLsts ds
  | .exc _ _ _ ds => noLsts ds
  | .err _ _ _ => false
  | _ => true
def noLsts : List D → Bool
  | [] => true
  | d :: ds => noLst d && noLsts ds
end
section
variable {K : PySem.W.Frag} {Hd : Hp} {l : Addr} {ws : List V}
theorem sqt_del {a : Addr} {xs : List V} (hl : Hd l = some (.lst ws)) (h : SqT K Hd a xs) : SqT K (del Hd l) a xs := by
  rcases h with (h | ⟨o, h⟩) | h
  · exact .inl (.inl (by rw [del_ne (fun z => by subst z; rw [hl] at h; cases h)]; exact h))
  · exact .inl (.inr ⟨o, by rw [del_ne (fun z => by subst z; rw [hl] at h; cases h)]; exact h⟩)
  · exact .inr h
mutual
theorem rep_del (hl : Hd l = some (.lst ws)) : ∀ {v : V} {d : D}, noLst d = true → Rep K Hd v d → Rep K (del Hd l) v d
  | _, _, _, .non => .non
  | _, _, _, .bl b => .bl b
  | _, _, _, .int i => .int i
  | _, _, _, .str x => .str x
  | _, _, n, .lst _ _ => by cases n
  | _, _, n, .tup h r => .tup (sqt_del hl h) (reps_del hl n r)
  | _, _, n, .dcf h e r => .dcf (by rw [del_ne (fun z => by subst z; rw [hl] at h; cases h)]; exact h) e (reps_del hl n r)
  | _, _, n, .dtf h e r => .dtf (by rw [del_ne (fun z => by subst z; rw [hl] at h; cases h)]; exact h) e (reps_del hl n r)
  | _, _, n, .dct h e r => .dct (by rw [del_ne (fun z => by subst z; rw [hl] at h; cases h)]; exact h) e (reps_del hl n r)
  | _, _, n, .obj h e r => .obj (by rw [del_ne (fun z => by subst z; rw [hl] at h; cases h)]; exact h) e (reps_del hl n r)
  | _, _, n, .exc h e r => .exc (by rw [del_ne (fun z => by subst z; rw [hl] at h; cases h)]; exact h) e (reps_del hl n r)
  | _, _, _, .ptr a => .ptr a
  | _, _, n, .err _ _ _ _ => by cases n
  | _, _, n, .err0 _ => by cases n
theorem reps_del (hl : Hd l = some (.lst ws)) : ∀ {vs : List V} {ds : List D}, noLsts ds = true → Reps K Hd vs ds → Reps K (del Hd l) vs ds
  | _, _, _, .nil => .nil
  | _, _, n, .cons h r => by
    have n' := Bool.and_eq_true_iff.mp (show (noLst _ && noLsts _) = true from n)
    exact .cons (rep_del hl n'.1 h) (reps_del hl n'.2 r)
end
end
section
variable {c : Ct} {Γ : List Sk} {i m : Nat} {te : TE} {φ : D → Prop}
theorem ev_lend {ds : List D} (hi : Γ[i]? = some (.own ds)) (h : Ev c te (Γ.set i (.dat (.lst ds))) m fun d => noLst d = true ∧ φ d) (hx : ∀ C fs, ¬ c.χ C fs := by intro _ _ z; exact z) : Ev c te Γ m φ := fun σ Hd H n s sa pe l x Q q => by
  obtain ⟨o', hσ, a, vs, e, h1, h2, h3, ne⟩ := s.get hi
  subst e
  have hl : i < Γ.length := (List.getElem?_eq_some_iff.mp hi).1
  have mo : Same Hd (upd Hd a (.lst vs)) := fun b u e => by rw [upd_ne (ne_of_none e h2)]; exact e
  have sa' : Same (upd Hd a (.lst vs)) H := fun b u e => by
    by_cases z : b = a
    · subst z; rw [upd_same] at e; cases e; exact h1
    · rw [upd_ne z] at e; exact sa _ _ e
  have keepO : ∀ {j : Nat} {k : Sk}, (Γ.set i (.dat (.lst ds)))[j]? = some k → k.isOwn = true → i ≠ j ∧ Γ[j]? = some k := fun {j k} q oq => by
    by_cases e : i = j
    · subst e; rw [List.getElem?_set_self hl] at q; cases q; cases oq
    · rw [List.getElem?_set_ne e] at q; exact ⟨e, q⟩
  have s' : SR c.K c.p (upd Hd a (.lst vs)) H σ (Γ.set i (.dat (.lst ds))) := by
    refine ⟨by rw [List.length_set]; exact s.len, fun j o2 k q1 q2 => ?_, fun j j' k1 k2 b nj q1 o1 q2 o2 e1 e2 => s.ap j j' k1 k2 b nj (keepO q1 o1).2 o1 (keepO q2 o2).2 o2 e1 e2⟩
    by_cases e : i = j
    · subst e
      rw [List.getElem?_set_self hl] at q2; cases q2
      rw [hσ] at q1; cases q1
      exact ⟨_, rfl, .lst upd_same (h3.mono mo)⟩
    · rw [List.getElem?_set_ne e] at q2
      have old := s.ok j _ _ q1 q2
      cases k with
      | un => exact True.intro
      | dat d => obtain ⟨v, e1, e2⟩ := old; exact ⟨v, e1, e2.mono mo⟩
      | own _ =>
        obtain ⟨l2, w2, e2, b1, b2, b3, b4⟩ := old
        subst e2
        have nl : l2 ≠ a := fun z => by subst z; exact s.ap i j _ _ _ e hi rfl q2 rfl hσ q1
        exact ⟨l2, w2, rfl, b1, by rw [upd_ne nl]; exact b2, b3.mono mo, b4⟩
      | ow _ _ =>
        obtain ⟨l2, w2, e2, b1, bl, b2, b3, b4⟩ := old
        subst e2
        have nl : l2 ≠ a := fun z => by subst z; exact s.ap i j _ _ _ e hi rfl q2 rfl hσ q1
        exact ⟨l2, w2, rfl, b1, bl, by rw [upd_ne nl]; exact b2, b3.mono mo, b4⟩
      | odk _ _ =>
        obtain ⟨l2, w2, e2, b1, bl, b2, b3, b4⟩ := old
        subst e2
        have nl : l2 ≠ a := fun z => by subst z; exact s.ap i j _ _ _ e hi rfl q2 rfl hσ q1
        exact ⟨l2, w2, rfl, b1, bl, by rw [upd_ne nl]; exact b2, b3.mono mo, b4⟩
      | slf _ _ _ _ _ =>
        obtain ⟨l2, w2, e2, b1, bl, b2, b3, b4⟩ := old
        subst e2
        have nl : l2 ≠ a := fun z => by subst z; exact s.ap i j _ _ _ e hi rfl q2 rfl hσ q1
        exact ⟨l2, w2, rfl, b1, bl, by rw [upd_ne nl]; exact b2, b3.mono mo, b4⟩
      | pen => exact old
  refine h σ _ H n s' sa' (pe.freeze ne h2 (pl_some h1 rfl)) l (fun C dx fs Hd' H' g hc _ => absurd hc (hx C fs)) Q fun v d Hd' H' g pe' f r => ?_
  have at_ : Hd' a = some (.lst vs) := g.d _ _ upd_same
  have low : Same Hd (del Hd' a) := fun b u e => by
    have nb := ne_of_none e h2
    rw [del_ne nb]; exact g.d _ _ (mo _ _ e)
  have G : Grow c.p.a Hd H (del Hd' a) H' := ⟨low, g.h, fun b u e => by
    by_cases z : b = a
    · subst z; rw [del_same] at e; cases e
    · rw [del_ne z] at e; exact g.s _ _ e, fun b n0 z => by
    by_cases y : b = a
    · subst y; exact del_same
    · rw [del_ne y]; exact g.f b n0 (by rw [upd_ne y]; exact z), g.m, g.t⟩
  refine q v d _ H' G ?_ f.2 (rep_del at_ f.1 r)
  cases hp : c.p with
  | none => exact True.intro
  | some ac =>
    rw [hp] at pe pe'
    obtain ⟨p1, p2, ⟨ns, p3, p4⟩, p6⟩ := pe'
    obtain ⟨_, _, ⟨ns0, p5, _⟩, _⟩ := pe
    have nc : ac.2 ≠ a := ne_of_none p5 h2
    refine ⟨p1, ?_, ⟨ns, by rw [del_ne nc]; exact p3, p4⟩, p6.1, fun q hq => by
      by_cases z : q.1 = a
      · rw [z]; exact del_same
      · rw [del_ne z]; exact p6.2 q hq⟩
    by_cases y : ac.1 = a
    · rw [y]; exact del_same
    · rw [del_ne y]; exact p2
end
section
variable {K : PySem.W.Frag} {E : XK}
/-- slot j = e, where e reads the local list at slot i: the answer holds no list, or the list is data from here on -/
def WS.asgLend (j i : Nat) (e : WE K E) : WS K E := ⟨(WS.asg j (WM.up e)).t, e.m, fun χ Γ W => match Γ[i]? with
  | some (.own ds) => (e.w noX (Γ.set i (.dat (.lst ds))) fun d => noLst d = true ∧ W.N (Γ.set j (.dat d))) ∨ e.w χ (Γ.set i (.dat (.lst ds))) fun d => W.N ((Γ.set i (.dat (.lst ds))).set j (.dat d))
  | _ => e.w χ Γ fun d => W.N (Γ.set j (.dat d)), fun {p χ Γ W} h => by
  split at h
  · rename_i ds hi
    rcases h with h | h
    · intro Hb Hd0 H0 σ Hd H n o l x En k1 k2 k3 k4
      have lent : Ev ⟨K, p, E, noX⟩ e.t Γ e.m fun d => W.N (Γ.set j (.dat d)) := ev_lend hi (e.ok (p := p) h)
      exact lent σ Hd H n o.sr o.g.s o.pe l (fun _ _ _ _ _ _ z => z.elim) _ fun v d Hd1 H1 g1 pe1 f r => k1 _ _ _ _ f ((o.grow g1 pe1).set r)
    · have q : (WS.frz i (WS.asg j (WM.up e))).w χ Γ W := by
        show FrzAt Γ i fun G => (WS.asg j (WM.up e)).w χ G W
        unfold FrzAt
        rw [hi]
        exact h
      exact (WS.frz i (WS.asg j (WM.up e))).ok q
  · exact (WS.asg j (WM.up e)).ok h⟩
def LendAt (Γ : List Sk) (i : Nat) (own : List D → Prop) (els : Prop) : Prop := match Γ[i]? with | some (.own ds) => own ds | _ => els
theorem lendAt_o {Γ : List Sk} {ds : List D} {own : List D → Prop} {els : Prop} : LendAt (.own ds :: Γ) 0 own els = own ds := rfl
theorem lendAt_d {Γ : List Sk} {d : D} {own : List D → Prop} {els : Prop} : LendAt (.dat d :: Γ) 0 own els = els := rfl
theorem lendAt_s {Γ : List Sk} {s : Sk} {i : Nat} {own : List D → Prop} {els : Prop} : LendAt (s :: Γ) (i + 1) own els = LendAt Γ i own els := rfl
theorem w_asgLend {j i : Nat} {e : WE K E} {χ : Xq} {Γ : List Sk} {W : Wh} : (WS.asgLend j i e).w χ Γ W = LendAt Γ i (fun ds => (e.w noX (Γ.set i (.dat (.lst ds))) fun d => noLst d = true ∧ W.N (Γ.set j (.dat d))) ∨ e.w χ (Γ.set i (.dat (.lst ds))) fun d => W.N ((Γ.set i (.dat (.lst ds))).set j (.dat d))) (e.w χ Γ fun d => W.N (Γ.set j (.dat d))) := by
  unfold LendAt
  show (match Γ[i]? with | some (.own ds) => _ | _ => _) = _
  cases h : Γ[i]? with
  | none => rfl
  | some k => cases k <;> rfl
end
section
variable {P : Program} {w : World} {K : PySem.W.Frag} {mg : Str → Option Value} {base : Heap} {x qual : Str} {k : Nat} {ps N : List Str} {st : Stmt} {pre : List D → Prop} {post : List D → D → Prop} {f : Addr} {fd : FuncData}
/-- a method that is pure, by its term -/
theorem fn_W (T : WS K L2.E0) (F : FunV K x qual st f fd) (S : FnScope N ps (defScope st)) (hl : ∀ ds, pre ds → ds.length = ps.length)
    (hb : ∀ (f : Addr) (cdv : Value) (A : Around) (outer : List Env) (s : Shared) (H : Hp) (E : XK), Room k (A.deeper (envOfC qual (defScope st) s.heap.objs.size f cdv)) → NoG (A.deeper (envOfC qual (defScope st) s.heap.objs.size f cdv)) →
      ∃ t, PSs (cxOf CX0 P w K mg base N qual (defScope st) f cdv A outer s H E).nox (defBody st) t ∧ t = T.t) (hm : T.m = 0) (hw : ∀ ds, pre ds → T.w noX (G0 N ds) (retW (post ds))) : FnG P w K mg base CX0 (k + 1) f fd ps (SpP K pre post) :=
  fn_P F S hl fun cdv A outer s H E hr ng ds hp => ⟨T.t, (hb f cdv A outer s H E hr ng).elim fun t h => h.2 ▸ h.1, fun p => (T.ok (hw ds hp)).more (by omega)⟩
theorem w_atS {E : XK} (U : WS K E) {χ χ' : Xq} {Γ Γ' : List Sk} {W W' : Wh} (h : U.w χ Γ W) (eχ : χ = χ') (eΓ : Γ = Γ') (eW : W = W') : U.w χ' Γ' W' := eχ ▸ eΓ ▸ eW ▸ h
end
end DL
set_option maxRecDepth 100000
set_option maxHeartbeats 4000000
/-! DLm: errors of two fields. -/
namespace DL
open PySem L2 PyProof.Rows
variable [Tbl]
/-- class C(Error): def __init__(self, f, g): self.f = f; self.g = g -/
theorem init2_ok {K : PySem.W.Frag} {f g : Str} {vs : List V} {H : Hp} {Q : VK} {E : XK} (h : SpI K [f, g] vs H Q E) : tSeq (tOst K f (tVar 0) (tVar 1)) (tOst K g (tVar 0) (tVar 2)) { nx := fun _ H' => Q .non H', rt := Q } (L2.start ["self", "x", "y"] vs) H := by
  obtain ⟨a, C, ws, rfl, hl, T, no, ha, q⟩ := h
  match ws, hl with
  | [y, z], _ =>
    refine ⟨_, rfl, _, rfl, a, C, rfl, T, no f (by simp), .inl ⟨ha, fun dx h1 h2 => ?_⟩⟩
    refine ⟨_, rfl, _, rfl, a, C, rfl, T, no g (by simp), .inr ⟨dx, [(f, y)], upd_same, by rw [upd_ne h2]; exact upd_same, (by show 1 ≤ 900; decide), ?_⟩⟩
    refine q dx _ h1 h2 (by rw [upd_ne h2.symm]; exact upd_same) upd_same fun b n1 n2 => ?_
    rw [upd_ne n2, upd_ne n1, upd_ne n2]
theorem init2_fn {P : Program} {w : World} {K : PySem.W.Frag} {mg : Str → Option Value} {base : Heap} {qual f g : Str} {st : Stmt} {fI : Addr} {fd : FuncData} {N ps : List Str} (F : Fun K "__init__" qual st fI fd) (S : FnScope N ps (defScope st)) (hN : N.length = 3) (hp : ps.length = 3)
    (hb : ∀ (cdv : Value) (A : Around) (outer : List Env) (s : Shared) (H : Hp) (E : XK), PSs (cxOf CX0 P w K mg base N qual (defScope st) fI cdv A outer s H E).nox (defBody st) (tSeq (tOst K f (tVar 0) (tVar 1)) (tOst K g (tVar 0) (tVar 2)))) : FnOk P w K mg base CX0 1 fI fd ps (SpI K [f, g]) :=
  F.ok (k := 0) S (fun vs H Q E h => by obtain ⟨a, C, ws, rfl, hl, _⟩ := h; rw [List.length_cons, hl, hp]; rfl) fun cdv A outer s H vs Q E hr h => ⟨_, hb cdv A outer s H E, by
    have e := init2_ok h (E := E)
    obtain ⟨a, C, ws, rfl, hl, _⟩ := h
    have e2 : L2.start N (.ref a :: ws) = L2.start ["self", "x", "y"] (.ref a :: ws) := by
      unfold L2.start
      rw [hN]; rfl
    rw [e2]; exact e⟩
end DL
set_option maxRecDepth 100000
set_option maxHeartbeats 4000000
/-! DLq: a slot that holds a local list on one way and data on another. -/
namespace DL
open PySem L2 PySem.Spec PyProof.Rows
variable [Tbl]
section
variable {K : PySem.W.Frag} {E : XK}
/-- a test of a list that may be local -/
def WE.borrowD (i : Nat) (a : WE K E) : WE K E := ⟨a.t, a.m, fun χ Γ φ => match Γ[i]? with | some (.own ds) => a.w noX (Γ.set i (.dat (.lst ds))) fun d => scalar d = true ∧ φ d | _ => a.w χ Γ φ, fun {p χ Γ φ} h => by
  split at h
  · rename_i ds e
    have q := ev_borrow (c := ⟨K, p, E, noX⟩) e (a.ok h) (fun d f => f.1) (fun _ _ z => z)
    exact fun σ Hd H n s sa pe l x Q k => q σ Hd H n s sa pe l (fun _ _ _ _ _ _ z _ => z.elim) Q fun v d Hd' H' g pe' f r => k v d Hd' H' g pe' f.2 r
  · exact a.ok h⟩
theorem w_borrowD {i : Nat} {a : WE K E} {χ : Xq} {Γ : List Sk} {φ : D → Prop} : (WE.borrowD i a).w χ Γ φ = LendAt Γ i (fun ds => a.w noX (Γ.set i (.dat (.lst ds))) fun d => scalar d = true ∧ φ d) (a.w χ Γ φ) := by
  unfold LendAt
  show (match Γ[i]? with | some (.own ds) => _ | _ => _) = _
  cases h : Γ[i]? with
  | none => rfl
  | some k => cases k <;> rfl
/-- x = list(a) if t else b, x being changed later -/
def WS.asgIteL (j : Nat) (t : WT K E) (a b : WE K E) : WS K E := ⟨(WS.asg j (WM.up (WE.ite t (WE.cb ON.list (WA.cons a WA.nil)) b))).t, t.m + (a.m + b.m), fun χ Γ W => t.w χ Γ fun k => (k = true → a.w χ Γ fun d => ∃ ds, d.its = some ds ∧ W.N (Γ.set j (.own ds))) ∧ (k = false → b.w χ Γ fun d => W.N (Γ.set j (.dat d))), fun {p χ Γ W} h Hb Hd0 H0 σ Hd H n o l x En k1 k2 k3 k4 => by
  refine t.ok h σ Hd H n o.sr o.g.s o.pe (by omega) (x.grow o.g) _ fun k Hd1 H1 g1 pe1 f => ?_
  have o1 := o.grow g1 pe1
  cases k with
  | true =>
    refine a.ok (f.1 rfl) σ Hd1 H1 _ o1.sr o1.g.s o1.pe (by omega) (x.grow o1.g) _ fun v d Hd2 H2 g2 pe2 ⟨ds, e, w⟩ r => ?_
    have o2 := o1.grow g2 pe2
    have fin : ∀ (ys : List V) (q : Addr), Reps K Hd2 ys ds → H2 q = none → En.nx (σ.set j (some (.ref q))) (upd H2 q (.lst ys)) := fun ys q r hq => k1 _ _ _ _ w ((o2.newOwn (i := j) hq r).more (by omega))
    cases r with
    | tup h1 r => cases e; exact ⟨_, _, rfl, .inr (same_sqt o2.g.s h1), fun q hq => fin _ q r hq⟩
    | lst h1 r => cases e; exact ⟨_, _, rfl, .inl (SqL.of (o2.g.s _ _ h1)), fun q hq => fin _ q r hq⟩
    | _ => cases e
  | false =>
    refine b.ok (f.2 rfl) σ Hd1 H1 _ o1.sr o1.g.s o1.pe (by omega) (x.grow o1.g) _ fun v d Hd2 H2 g2 pe2 w r => ?_
    exact k1 _ _ _ _ w (((o1.grow g2 pe2).set r).more (by omega))⟩
theorem w_asgIteL {j : Nat} {t : WT K E} {a b : WE K E} {χ : Xq} {Γ : List Sk} {W : Wh} : (WS.asgIteL j t a b).w χ Γ W = t.w χ Γ fun k => (k = true → a.w χ Γ fun d => ∃ ds, d.its = some ds ∧ W.N (Γ.set j (.own ds))) ∧ (k = false → b.w χ Γ fun d => W.N (Γ.set j (.dat d))) := rfl
end
end DL
set_option maxRecDepth 100000
set_option maxHeartbeats 4000000
/-! DLz: the facts of classes at a law's start, handed on (the addresses stay as they are). -/
namespace DL
open PySem L2 PyProof.Rows
variable [Tbl]
section
variable {K : PySem.W.Frag} {h : Heap} {mg : Str → Option Value} {x y : Str} {st : Stmt} {ps : List Str} {goal : Prop}
theorem own_then {qual : Str} {C fI : Addr} {ns : List Str} {nm q : Str} {N : Addr} {bs bm : List Value} {sn : List Str} {sub : List Value} {ab : Bool} {col : Option Bool} {dd : Option Addr} {m0 m1 m2 m3 m5 : Option Value}
    {oc : Value} {od an : Option Addr} {osl : Array (Option Value)} {kV doc pm cdv ct : Value} (X : K.In h) (G : h.Ns mainGlobals mg) (aC : PySem.W.nsIn K mainGlobals x = some (some (.ref C)))
    (xL : K.lookup C = some (excClassObj nm q C N bs bm true sn sub ab col dd m0 m1 m2 m3 m5 "ValueError.__new__")) (ve : PySem.HandSPX.refsVE bm = true)
    (sa : PySem.W.findIn K (.ref C) "__setattr__" = some (some (.builtin "object.__setattr__"))) (ga : PySem.W.findIn K (.ref C) "__getattribute__" = some (some (.builtin "BaseException.__getattribute__"))) (gg : PySem.W.findIn K (.ref C) "__getattr__" = some none)
    (no : ∀ f ∈ ns, PySem.W.findIn K (.ref C) f = some none) (a1 : PySem.W.findIn K (.ref C) "__init__" = some (some (.ref fI))) (t1 : PySem.W.typeIn K (.ref fI) = some (.type "function"))
    (l : K.lookup fI = some ⟨oc, od, .func (PySem.W.fnOf "__init__" qual (defArgs st) (defBody st) (defScope st) .none kV doc pm an cdv ct), osl⟩) (c : PySem.W.codeIn K cdv qual = true) (k : PySem.W.keepIn K (.ref fI) = true)
    (kC : PySem.W.keepIn K (.ref C) = true) (eC : PySem.W.subIn K (.ref C) (.type "BaseException") = some true) (tC : PySem.W.typeIn K (.ref C) = some (.type "type")) (hC : PySem.W.hasDictIn K C = true) (iC : PySem.W.isClsIn K C = true) (sC : PySem.W.subIn K (.ref C) (.ref C) = some true)
    (b : ∀ (kV doc pm : Value) (an : Option Addr) (cdv ct : Value) (us : List Value), us.length = ps.length → bindArgs (PySem.W.fnOf "__init__" qual (defArgs st) (defBody st) (defScope st) .none kV doc pm an cdv ct) ⟨us, []⟩ = pure (ps.zip us))
    (r : OwnC K mg x C fI ns → (∃ fd, Fun K "__init__" qual st fI fd ∧ Binds K fd ps []) → goal) : goal :=
  r ⟨⟨⟨nm, q, N, bs, bm, sn, sub, ab, col, dd, m0, m1, m2, m3, m5, xL, ve⟩, sa, eC, tC, kC⟩, ⟨ga, gg, eC, hC⟩, a1, t1, no, PySem.W.mg_of X G aC, exm_self eC iC tC sC⟩ ⟨_, fun_mk l c k, .all (b kV doc pm an cdv ct)⟩
theorem exm_then {A B i j : Addr} {ns ms : List Str} (p : OwnC K mg x A i ns) (q : OwnC K mg y B j ms) (s : PySem.W.subIn K (.ref A) (.ref B) = some false) (r : PySem.W.exmOne K (.ref A) (.ref B) = some false → goal) : goal :=
  r (PySem.W.exm_ref q.ox.exC q.xf.hdC q.ox.tyC s)
def strKeysB (es : Array DictEntry) : Bool := es.toList.all fun e => match e.key with | .str _ _ => true | _ => false
theorem strKeys_of {es : Array DictEntry} (e : strKeysB es = true) : StrKeys es := fun d hd => by
  have q := List.all_eq_true.mp e d (Array.mem_toList_iff.mpr hd)
  cases k : d.key with
  | str n t => exact ⟨n, t, rfl⟩
  | _ => rw [k] at q; cases q
theorem obj_then {stE : Stmt} {psE : List Str} {qual qualE : Str} {C fI fE : Addr} {ns : List Str} {nm q : Str} {N : Addr} {bs : List Value} {hdct : Bool} {sn : List Str} {sub : List Value} {ab : Bool} {col : Option Bool} {dd : Option Addr} {m0 m1 m2 m3 m5 : Option Value} {newId : String}
    {es : Array DictEntry} {ep : Nat} {on : Obj} {oc : Value} {od an : Option Addr} {osl : Array (Option Value)} {kV doc pm cdv ct : Value} {oc' : Option Addr} {osl' : Array (Option Value)} {an' : Option Addr} {kV' doc' pm' cdv' ct' : Value} (X : K.In h) (G : h.Ns mainGlobals mg) (aC : PySem.W.nsIn K mainGlobals x = some (some (.ref C)))
    (xL : K.lookup C = some (excClassObj nm q C N bs [.type "object"] hdct sn sub ab col dd m0 m1 m2 m3 m5 newId)) (lN : K.lookup N = some on) (dN : on.data = .dict es ep) (kN : strKeysB es = true)
    (pg : PySem.W.plainGet K C Str.empty = true) (hd : PySem.W.hasDictIn K C = true) (po : PySem.W.plainOver K C = true) (sa : PySem.W.findIn K (.ref C) "__setattr__" = some (some (.builtin "object.__setattr__"))) (mk : PySem.W.makesIn K C = true) (kc : PySem.W.keepIn K (.ref C) = true)
    (no : ∀ f ∈ ns, PySem.W.findIn K (.ref C) f = some none) (a1 : PySem.W.findIn K (.ref C) "__init__" = some (some (.ref fI))) (i1 : PySem.W.isFn K (.ref fI) = true)
    (l1 : K.lookup fI = some ⟨oc, od, .func (PySem.W.fnOf "__init__" qual (defArgs st) (defBody st) (defScope st) .none kV doc pm an cdv ct), osl⟩) (c1 : PySem.W.codeIn K cdv qual = true) (k1 : PySem.W.keepIn K (.ref fI) = true)
    (a2 : PySem.W.findIn K (.ref C) "__eq__" = some (some (.ref fE))) (i2 : PySem.W.isFn K (.ref fE) = true)
    (l2 : K.lookup fE = some ⟨.type "function", oc', .func (PySem.W.fnOf "__eq__" qualE (defArgs stE) (defBody stE) (defScope stE) .none kV' doc' pm' an' cdv' ct'), osl'⟩) (c2 : PySem.W.codeIn K cdv' qualE = true) (k2 : PySem.W.keepIn K (.ref fE) = true)
    (it : PySem.W.subIn K (.type "int") (.ref C) = some false) (tt : PySem.W.subIn K (.type "tuple") (.ref C) = some false) (fq : nsFind es "__eq__" = some (.ref fE)) (fn : nsFind es "__ne__" = none)
    (ha : PySem.W.findIn K (.ref C) "__class__" = some (some (.builtin "object.__class__"))) (hn : PySem.W.specialIn K (.builtin "object.__class__") "__get__" = some (some (.builtin "getset_descriptor.__get__"))) (htk : PySem.W.takesIn K (.builtin "object.__class__") = some true) (hm : PySem.W.mroIn K C (.type "object") = some true)
    (kI : PySem.W.kitOne K (.type "int") (.ref C) = some false) (kT : PySem.W.kitOne K (.type "tuple") (.ref C) = some false)
    (b1 : ∀ (kV doc pm : Value) (an : Option Addr) (cdv ct : Value) (us : List Value), us.length = ps.length → bindArgs (PySem.W.fnOf "__init__" qual (defArgs st) (defBody st) (defScope st) .none kV doc pm an cdv ct) ⟨us, []⟩ = pure (ps.zip us))
    (b2 : ∀ (kV doc pm : Value) (an : Option Addr) (cdv ct : Value) (us : List Value), us.length = psE.length → bindArgs (PySem.W.fnOf "__eq__" qualE (defArgs stE) (defBody stE) (defScope stE) .none kV doc pm an cdv ct) ⟨us, []⟩ = pure (psE.zip us))
    (r : OwnO K mg x C fI fE ns → (∃ fd, FunV K "__init__" qual st fI fd ∧ Binds K fd ps []) → (∃ fd, FunV K "__eq__" qualE stE fE fd ∧ Binds K fd psE []) → goal) : goal := by
  have cl : Cls K C := ⟨pg, hd, po, sa⟩
  exact r ⟨cl, no, ⟨mk, a1, i1, kc⟩, PySem.W.mg_of X G aC, ⟨a2, i2, it, tt⟩, ⟨⟨nm, q, N, bs, hdct, sn, sub, ab, col, dd, m0, m1, m2, m3, m5, newId, es, ep, on, xL, lN, dN, strKeys_of kN, fq, fn⟩, ⟨_, l2, rfl⟩⟩, ⟨fun H a dx fs e => .ins e cl ha hn htk hm, kI, kT⟩⟩
    ⟨_, ⟨⟨oc, od, .none, kV, doc, pm, an, cdv, ct, osl, rfl, l1, c1⟩, k1⟩, .all (b1 kV doc pm an cdv ct)⟩ ⟨_, ⟨⟨.type "function", oc', .none, kV', doc', pm', an', cdv', ct', osl', rfl, l2, c2⟩, k2⟩, .all (b2 kV' doc' pm' an' cdv' ct')⟩
end
end DL
set_option maxRecDepth 100000
set_option maxHeartbeats 4000000
/-! DLv: a list that other data points to while it is changed; ghost steps. -/
namespace DL
open PySem L2 PySem.Spec PyProof.Rows
variable [Tbl]
mutual
/-- what .ptr a points to is told -/
def D.sub (a : Addr) (es : List D) : D → D
  | .ptr b => if b = a then .lst es else .ptr b
  | .lst ds => .lst (D.subs a es ds)
  | .tup ds => .tup (D.subs a es ds)
  | .dct ks ds => .dct ks (D.subs a es ds)
  | .dcf ks ds => .dcf ks (D.subs a es ds)
  | .dtf ks ds => .dtf ks (D.subs a es ds)
  | .obj C ns ds => .obj C ns (D.subs a es ds)
  | .exc x dx ns ds => .exc x dx ns (D.subs a es ds)
  | .err C ns ds => .err C ns (D.subs a es ds)
  | d => d
def D.subs (a : Addr) (es : List D) : List D → List D
  | [] => []
  | d :: ds => D.sub a es d :: D.subs a es ds
end
section
variable {K : PySem.W.Frag} {Hd : Hp} {a : Addr} {ws : List V} {es : List D}
mutual
theorem Rep.sub (hl : Hd a = some (.lst ws)) (rs : Reps K Hd ws es) : ∀ {v : V} {d : D}, Rep K Hd v d → Rep K Hd v (d.sub a es)
  | _, _, .non => .non
  | _, _, .bl b => .bl b
  | _, _, .int i => .int i
  | _, _, .str x => .str x
  | _, _, .lst h r => .lst h (Reps.sub hl rs r)
  | _, _, .tup h r => .tup h (Reps.sub hl rs r)
  | _, _, .dct h l r => .dct h l (Reps.sub hl rs r)
  | _, _, .dcf h l r => .dcf h l (Reps.sub hl rs r)
  | _, _, .dtf h l r => .dtf h l (Reps.sub hl rs r)
  | _, _, .obj h l r => .obj h l (Reps.sub hl rs r)
  | _, _, .exc h l r => .exc h l (Reps.sub hl rs r)
  | _, _, .err h1 h2 l r => .err h1 h2 l (Reps.sub hl rs r)
  | _, _, .err0 h => .err0 h
  | _, _, .ptr b => by
    unfold D.sub
    by_cases e : b = a
    · rw [if_pos e]; subst e; exact .lst hl rs
    · rw [if_neg e]; exact .ptr b
theorem Reps.sub (hl : Hd a = some (.lst ws)) (rs : Reps K Hd ws es) : ∀ {vs : List V} {ds : List D}, Reps K Hd vs ds → Reps K Hd vs (D.subs a es ds)
  | _, _, .nil => .nil
  | _, _, .cons h r => .cons (Rep.sub hl rs h) (Reps.sub hl rs r)
end
end
def Sk.sub (a : Addr) (es : List D) : Sk → Sk
  | .dat d => .dat (d.sub a es)
  | k => k
theorem Sk.sub_own {a : Addr} {es : List D} {k : Sk} : (k.sub a es).isOwn = k.isOwn := by cases k <;> rfl
theorem Sk.sub_id {a : Addr} {es : List D} {k : Sk} (h : k.isOwn = true) : k.sub a es = k := by cases k <;> first | rfl | cases h
section
variable {c : Ct} {Hb Hd0 H0 : Hp} {σ σ' : L2.St} {Γ Γ' : List Sk} {Hd H Hd' H' : Hp} {n n' m : Nat} {i : Nat} {t : TS} {W : Wh}
theorem Ok.sub (o : Ok c Hb Hd0 H0 σ Γ Hd H n) {a : Addr} {ws : List V} {es : List D} (hl : Hd a = some (.lst ws)) (rs : Reps c.K Hd ws es) : Ok c Hb Hd0 H0 σ (Γ.map (Sk.sub a es)) Hd H n := by
  have back : ∀ {j : Nat} {k : Sk}, (Γ.map (Sk.sub a es))[j]? = some k → ∃ k', Γ[j]? = some k' ∧ k = k'.sub a es := fun {j k} q => by
    rw [List.getElem?_map] at q
    cases z : Γ[j]? with
    | none => rw [z] at q; cases q
    | some k' => rw [z] at q; cases q; exact ⟨k', rfl, rfl⟩
  refine ⟨o.b, o.s0, o.g, ⟨by rw [List.length_map]; exact o.sr.len, fun j o' k h1 h2 => ?_, fun j j' k1 k2 l nj h1 o1 h2 o2 e1 e2 => ?_⟩, o.pe, fun j k l h1 h2 h3 => ?_⟩
  · obtain ⟨k', h3, rfl⟩ := back h2
    have q := o.sr.ok j _ _ h1 h3
    cases k' with
    | dat d => obtain ⟨v, e, r⟩ := q; exact ⟨v, e, r.sub hl rs⟩
    | _ => exact q
  · obtain ⟨k1', g1, rfl⟩ := back h1
    obtain ⟨k2', g2, rfl⟩ := back h2
    exact o.sr.ap j j' k1' k2' l nj g1 (Sk.sub_own.symm.trans o1) g2 (Sk.sub_own.symm.trans o2) e1 e2
  · obtain ⟨k', g1, rfl⟩ := back h1
    exact o.fr j k' l g1 (Sk.sub_own.symm.trans h2) h3
/-- a slot that owns a list is told otherwise -/
theorem Ok.reown (o : Ok c Hb Hd0 H0 σ Γ Hd H n) {k k' : Sk} (hi : Γ[i]? = some k) (ho : k.isOwn = true) (h : ∀ v, σ[i]? = some v → SkAt c.K c.p Hd H v k → SkAt c.K c.p Hd H v k') : Ok c Hb Hd0 H0 σ (Γ.set i k') Hd H n := by
  have hl : i < Γ.length := (List.getElem?_eq_some_iff.mp hi).1
  have back : ∀ {j : Nat} {k2 : Sk}, (Γ.set i k')[j]? = some k2 → k2.isOwn = true → ∃ k3, Γ[j]? = some k3 ∧ k3.isOwn = true := fun {j k2} q oq => by
    by_cases e : i = j
    · subst e; exact ⟨_, hi, ho⟩
    · rw [List.getElem?_set_ne e] at q; exact ⟨_, q, oq⟩
  refine ⟨o.b, o.s0, o.g, ⟨by rw [List.length_set]; exact o.sr.len, fun j o' k2 h1 h2 => ?_, fun j j' k1 k2 l nj h1 o1 h2 o2 e1 e2 => ?_⟩, o.pe, fun j k2 l h1 h2 h3 => ?_⟩
  · by_cases e : i = j
    · subst e
      rw [List.getElem?_set_self hl] at h2; cases h2
      exact h o' h1 (o.sr.ok i _ _ h1 hi)
    · rw [List.getElem?_set_ne e] at h2
      exact o.sr.ok j _ _ h1 h2
  · obtain ⟨k1', a1, b1⟩ := back h1 o1
    obtain ⟨k2', a2, b2⟩ := back h2 o2
    exact o.sr.ap j j' k1' k2' l nj a1 b1 a2 b2 e1 e2
  · obtain ⟨k3, a1, b1⟩ := back h1 h2
    exact o.fr j k3 l a1 b1 h3
theorem Ok.name (o : Ok c Hb Hd0 H0 σ Γ Hd H n) {ds : List D} {l : Addr} (hi : Γ[i]? = some (.own ds)) (hs : σ[i]? = some (some (.ref l))) : Ok c Hb Hd0 H0 σ (Γ.set i (.ow l ds)) Hd H n :=
  o.reown hi rfl fun v e ⟨l', vs, e1, h1, h2, h3, h4⟩ => by
    rw [hs] at e; cases e; cases e1
    exact ⟨l, vs, rfl, h1, rfl, h2, h3, h4⟩
theorem Ok.unname (o : Ok c Hb Hd0 H0 σ Γ Hd H n) {ds : List D} {a : Addr} (hi : Γ[i]? = some (.ow a ds)) : Ok c Hb Hd0 H0 σ (Γ.set i (.own ds)) Hd H n ∧ σ[i]? = some (some (.ref a)) := by
  refine ⟨o.reown hi rfl fun v e ⟨l', vs, e1, h1, _, h2, h3, h4⟩ => ⟨l', vs, e1, h1, h2, h3, h4⟩, ?_⟩
  obtain ⟨v, hv, l, vs, e, _, e2, _⟩ := o.sr.get hi
  subst e; subst e2; exact hv
theorem wp_name {ds : List D} (i : Nat) (hi : Γ[i]? = some (.own ds)) (h : ∀ a, Wp c t (Γ.set i (.ow a ds)) m W) : Wp c t Γ m W := fun Hb Hd0 H0 σ Hd H n o l x E k1 k2 k3 k4 => by
  obtain ⟨v, hv, a, vs, e, _⟩ := o.sr.get hi
  subst e
  exact h a Hb Hd0 H0 σ Hd H n (o.name hi hv) l x E k1 k2 k3 k4
theorem wp_tell {a : Addr} {ds : List D} (i : Nat) (hi : Γ[i]? = some (.ow a ds)) (h : Wp c t ((Γ.set i (.dat (.lst ds))).map (Sk.sub a ds)) m W) : Wp c t Γ m W := fun Hb Hd0 H0 σ Hd H n o l x E k1 k2 k3 k4 => by
  obtain ⟨o1, hs⟩ := o.unname hi
  have hl : i < Γ.length := (List.getElem?_eq_some_iff.mp hi).1
  obtain ⟨l2, vs, e, h1, h2, h3, h4, o2⟩ := o1.freeze (List.getElem?_set_self hl)
  rw [hs] at e; cases e
  rw [List.set_set] at o2
  have mo : Same Hd (upd Hd a (.lst vs)) := fun b u e => by rw [upd_ne (ne_of_none e h2)]; exact e
  exact h Hb Hd0 H0 σ _ H n (o2.sub upd_same (h3.mono mo)) l x E k1 k2 k3 k4
theorem ev_ptr {φ : D → Prop} {a : Addr} {ds : List D} (h : Γ[i]? = some (.ow a ds)) (f : φ (.ptr a)) : Ev c (tVar i) Γ 0 φ := fun σ Hd H n s sa pe l x Q q => by
  obtain ⟨v, hv, l, vs, e, _, e2, _⟩ := s.get h
  subst e; subst e2
  exact ⟨_, hv, q _ (.ptr l) Hd H (.refl sa) pe f (.ptr l)⟩
/-- xs.append(e), xs a list that other data points to -/
theorem wp_appendO {te : TE} {a : Addr} {ds : List D} (hi : Γ[i]? = some (.ow a ds)) (h : EvM c te Γ m (fun d G => G = Γ ∧ ds.length < 1000000 ∧ W.N (Γ.set i (.ow a (ds ++ [d]))))) : Wp c (tDrop (tBM c.K "list" rAppend (tVar i) (tCons te tNil))) Γ m W := fun Hb Hd0 H0 σ Hd H n o l x E k1 k2 k3 k4 => by
  obtain ⟨o0, hs, b, vs, e, h1, e2, _⟩ := o.sr.get hi
  subst e; subst e2
  refine ⟨_, hs, .inl ⟨rfl, _, SqL.of h1⟩, h Hb Hd0 H0 σ Hd H n o l x _ fun v d G Hd' H' f o' r => ?_⟩
  obtain ⟨rfl, g2, g3⟩ := f
  obtain ⟨o2, hs2, b2, ws, e, h2, e3, h3, h4, _⟩ := o'.sr.get hi
  rw [hs] at hs2; cases hs2; cases e
  have hl : i < G.length := (List.getElem?_eq_some_iff.mp hi).1
  obtain ⟨p1, _⟩ := o'.unname hi
  have p2 := p1.writeOwn (List.getElem?_set_self hl) hs (h4.append (.cons r .nil))
  rw [List.set_set] at p2
  have p3 := p2.name (List.getElem?_set_self hl) hs
  rw [List.set_set] at p3
  exact ⟨_, ws, v, rfl, rfl, h2, by rw [h4.length, sizeLine_eq]; omega, k1 _ _ _ _ g3 p3⟩
end
/-! ### bundled -/
section
variable {K : PySem.W.Frag} {E : XK}
def WE.pvar (i : Nat) : WE K E := ⟨tVar i, 0, fun _ Γ φ => match Γ[i]? with | some (.ow a _) => φ (.ptr a) | _ => False, fun {p χ Γ φ} h => by
  split at h
  · rename_i a ds e; exact ev_ptr e h
  · exact h.elim⟩
/-- the list at i gets a name -/
def WS.name (i : Nat) (s : WS K E) : WS K E := ⟨s.t, s.m, fun χ Γ W => match Γ[i]? with | some (.own ds) => ∀ a, s.w χ (Γ.set i (.ow a ds)) W | _ => False, fun {p χ Γ W} h => by
  split at h
  · rename_i ds e; exact wp_name i e fun a => s.ok (h a)
  · exact h.elim⟩
/-- the list at i is told wherever it is pointed to -/
def WS.tell (i : Nat) (s : WS K E) : WS K E := ⟨s.t, s.m, fun χ Γ W => match Γ[i]? with | some (.ow a ds) => s.w χ ((Γ.set i (.dat (.lst ds))).map (Sk.sub a ds)) W | _ => False, fun {p χ Γ W} h => by
  split at h
  · rename_i a ds e; exact wp_tell i e (s.ok h)
  · exact h.elim⟩
def WS.appendO (i : Nat) (e : WE K E) : WS K E := ⟨tDrop (tBM K "list" rAppend (tVar i) (tCons e.t tNil)), e.m, fun χ Γ W => match Γ[i]? with | some (.ow a ds) => e.w χ Γ fun d => ds.length < 1000000 ∧ W.N (Γ.set i (.ow a (ds ++ [d]))) | _ => False, fun {p χ Γ W} h => by
  split at h
  · rename_i a ds z; exact wp_appendO z (((e.ok h).toM).imp fun d G ⟨g1, g2⟩ => ⟨g1, g2⟩)
  · exact h.elim⟩
end
end DL
set_option maxRecDepth 100000
set_option maxHeartbeats 4000000
/-! DLu: exceptions as values, bundled. -/
namespace DL
open PySem L2 PySem.Spec PyProof.Rows
variable [Tbl]
section
variable {K : PySem.W.Frag} {E : XK}
/-- C(..) as a value -/
def WE.mkE (C : Addr) (ns : List Str) (a : WA K E) (T : OexC K C) (no : ∀ f ∈ ns, PySem.W.findIn K (.ref C) f = some none) : WE K E := ⟨tKeep (tMkO C (SpI K ns) [] a.t), a.m, fun χ Γ φ => a.w χ Γ fun ds => ds.length = ns.length ∧ ds.length ≤ 1000 ∧ φ (.err C ns.reverse ds.reverse), fun {p χ Γ φ} h σ Hd H n s sa pe l x Q q => by
  refine a.ok h σ Hd H n s sa pe l x _ fun vs ds Hd1 H1 g1 pe1 ⟨f1, f2, f3⟩ r => ⟨by rw [r.length]; exact f2, fun a' ha => ?_⟩
  refine ⟨a', C, vs, by rw [List.append_nil], by rw [r.length]; exact f1, T, no, upd_same, fun dx H2 h1 h2 e1 e2 e3 => ⟨rfl, dx, _, e1, e2, ?_, fun b hb => ?_⟩⟩
  · rw [upd_ne h2] at h1; exact h1
  · rw [upd_ne h2] at h1
    have eH : upd (del H2 a') dx (.xd (ns.zip vs).reverse) = upd H1 dx (.xd (ns.zip vs).reverse) := by
      funext b
      by_cases q : b = dx
      · subst q; rw [upd_same, upd_same]
      · rw [upd_ne q, upd_ne q]
        by_cases q2 : b = a'
        · subst q2; rw [del_same, ha]
        · rw [del_ne q2, e3 b q2 q, upd_ne q2]
    rw [eH] at hb ⊢
    have l1 : ns.length = vs.length := by rw [r.length, f1]
    have g2 : Grow (p.a) Hd1 H1 (upd Hd1 dx (.xd (ns.zip vs).reverse)) (upd H1 dx (.xd (ns.zip vs).reverse)) := Grow.new g1.s h1
    have g3 : Grow (p.a) _ _ (upd (upd Hd1 dx (.xd (ns.zip vs).reverse)) b (ExK (.ref C) (some dx) b)) (upd (upd H1 dx (.xd (ns.zip vs).reverse)) b (ExK (.ref C) (some dx) b)) := Grow.new (Grow.s g2) hb
    have nb : dx ≠ b := fun z => by subst z; rw [upd_same] at hb; cases hb
    refine q _ (.err C ns.reverse ds.reverse) _ _ ((g1.trans g2).trans g3) ?_ f3 ?_
    · have hd1 : Hd1 dx = none := Same.free g1.s h1
      exact (pe1.grow (Grow.new g1.s h1)).grow (Grow.new (Grow.s g2) hb)
    · refine .err (dx := dx) (xs := vs.reverse) upd_same ?_ (by rw [List.length_reverse, List.length_reverse]; exact l1) ((r.mono (g2.trans g3).d).reverse)
      rw [upd_ne nb, upd_same, zip_rev l1]⟩
/-- v.f, v a kept exception of the class C -/
def WE.fldE (C : Addr) (f : Str) (e : WE K E) : WE K E := ⟨tFldK C f e.t, e.m, fun χ Γ φ => e.w χ Γ fun x => ∃ ns ds y, x = .err C ns ds ∧ lookD ns ds f = some y ∧ φ y, fun {p χ Γ φ} h σ Hd H n s sa pe l x Q q =>
  e.ok h σ Hd H n s sa pe l x _ fun v d' Hd1 H1 g1 pe1 ⟨ns, ds, y, e1, e2, f1⟩ r => by
    subst e1
    cases r with
    | err h1 h2 h3 h4 =>
      obtain ⟨v, q1, q2⟩ := look_zip h4 e2
      exact ⟨_, _, _, v, rfl, g1.s _ _ h1, g1.s _ _ h2, q1, q v y Hd1 H1 g1 pe1 f1 q2⟩
    | err0 h1 => cases e2⟩
/-- isinstance(v, c), v a kept exception of any class -/
def rIsX (K : PySem.W.Frag) : List V → Hp → VK → Prop := fun xs H Q => ∃ D, ExcC K D ∧ rIsK K D xs H Q
theorem call_isX {X : Cx} : CallR X (.builtin "isinstance") (rIsX X.K) := fun pins s σ H xs us Q I r ⟨_, C, h⟩ => call_isK C pins s σ H xs us Q I r h
/-- c: the class as a value, u as the model's -/
def WE.isE (c : V) (u : Value) (hc : ClsV c u) (tc : TE) (ht : ∀ σ H Q, Q c H → tc σ H Q) (a : WE K E) : WE K E := ⟨tCB (rIsX K) (tCons a.t (tCons tc tNil)), a.m, fun χ Γ φ => a.w χ Γ fun d => ∃ C ns ds b, d = .err C ns ds ∧ ExcC K C ∧ PySem.W.kitOne K (.ref C) u = some b ∧ φ (.bl b), fun {p χ Γ φ} h σ Hd H n s sa pe l x Q q =>
  a.ok h σ Hd H n s sa pe l x _ fun v d Hd1 H1 g1 pe1 ⟨C, ns, ds, b, e, hC, hk, f⟩ r => by
    subst e
    refine ht _ _ _ ?_
    cases r with
    | err h1 h2 h3 h4 => exact ⟨C, hC, _, _, c, u, b, rfl, g1.s _ _ h1, fun dd e => by cases e; exact ⟨_, g1.s _ _ h2⟩, hc, hk, q _ _ Hd1 H1 g1 pe1 f (.bl _)⟩
    | err0 h1 => exact ⟨C, hC, _, _, c, u, b, rfl, g1.s _ _ h1, fun dd e => (nomatch e), hc, hk, q _ _ Hd1 H1 g1 pe1 f (.bl _)⟩⟩
end
/-- C(), an own exception class without an __init__ of its own -/
theorem pmk_none {X : Cx} {C : Addr} {bmB : List Value} {B newId initId : String} {x : Str} {p pos : Pos} (F : ExcBaseFacts B newId initId bmB) (q : PySem.W.excIn X.K C bmB newId = true) (gC : X.mg x = some (.ref C))
    (kC : PySem.W.keepIn X.K (.ref C) = true) (r : Raises X (.ref C)) (hg : Gl X x) (hdb : (x == ("__debug__" : Str)) = false := by decide) : PMk X (.Call (.Name x p) [] [] pos) (fun _ H Q => Q (.ref C) none H) := fun pins s σ H Q I h => by
  refine wpAny_Call_Name_kw (ld_glob I hg gC ?_ hdb)
  obtain ⟨bm, N, nm, qn, bs, hdct, sn, sub, ab, col, dd, k0, k1, k2, k3, k5, mN, hC, hN, hni, T⟩ := exc_obj I.kIn q
  exact PySem.W.callWith_K0 I.kIn kC (wpAny_call_exc_subT F T hC hN hni (fun h' e hm => mk_of I hm r h (I.hok.gone hm.new)) (Nat.zero_le _))
section
variable {K : PySem.W.Frag} {E : XK}
def WE.mkE0 (C : Addr) : WE K E := ⟨tKeep (fun _ H Q => Q (.ref C) none H), 0, fun χ Γ φ => φ (.err C [] []), fun {p χ Γ φ} h σ Hd H n s sa pe l x Q q a ha =>
  q _ (.err C [] []) _ _ (Grow.new sa ha) (pe.grow (Grow.new sa ha)) h (.err0 upd_same)⟩
end
section
variable {X : Cx} {x : Str} {C fI : Addr} {ns : List Str} {j k : Nat} {e : Expr} {es : List Expr} {ta : TA} {p pos : Pos}
theorem pe_mkE (O : OwnI X.prog X.w X.K X.mg X.base x C fI ns j) (hr : Room k X.A) (hj : j + 1 ≤ k) (hg : Gl X x) (ha : PA X (e :: es) ta)
    (hdb : (x == ("__debug__" : Str)) = false := by decide) (he : starEach (e :: es) X.env = (false, eval e X.env) :: starEach es X.env := by rfl) (hpl : (backTo pos (starEach es X.env)).any (·.1) = false := by rfl) :
    PE X (.Call (.Name x p) (e :: es) [] pos) (tKeep (tMkO C (SpI X.K ns) [] ta)) := by
  obtain ⟨fd, ps, F, hb⟩ := O.ex
  exact pe_keep (pmk_oex O.own.ox O.own.iC O.own.tI F (hr.mono hj) hb .nil pass0 hg O.own.m ha hdb he hpl)
end
section
variable {K : PySem.W.Frag} {E : XK} {χ : Xq} {Γ : List Sk} {φ : D → Prop} {W : Wh}
theorem w_mkE {C : Addr} {ns : List Str} {a : WA K E} {T : OexC K C} {no : ∀ f ∈ ns, PySem.W.findIn K (.ref C) f = some none} : (WE.mkE C ns a T no).w χ Γ φ = a.w χ Γ fun ds => ds.length = ns.length ∧ ds.length ≤ 1000 ∧ φ (.err C ns.reverse ds.reverse) := rfl
theorem w_mkE0 {C : Addr} : (WE.mkE0 C : WE K E).w χ Γ φ = φ (.err C [] []) := rfl
theorem w_fldE {C : Addr} {f : Str} {e : WE K E} : (WE.fldE C f e).w χ Γ φ = e.w χ Γ fun x => ∃ ns ds y, x = .err C ns ds ∧ lookD ns ds f = some y ∧ φ y := rfl
end
/-- v.n, v a kept exception of any own class -/
def tFldX (K : PySem.W.Frag) (n : Str) (te : TE) : TE := fun σ H Q => te σ H fun x H1 => ∃ C, XfC K C ∧ PySem.W.findIn K (.ref C) n = some none ∧ ∃ (a dd : Addr) (fs : List (Str × V)) (v : V), x = .ref a ∧ H1 a = some (ExK (.ref C) (some dd) a) ∧ H1 dd = some (.xd fs) ∧ fs.lookup n = some v ∧ Q v H1
theorem pe_fldX {X : Cx} {e : Expr} {te : TE} {n : Str} {pos : Pos} (he : PE X e te) (hb : attributeBase e n X.env (eval e X.env) = eval e X.env := by rfl) : PE X (.Attribute e n pos) (tFldX X.K n te) := by
  refine ⟨fun pins s σ H Q I h => attr_of hb (thn (he.run pins s σ H _ I h) fun u s1 hh => ?_)⟩
  obtain ⟨x, H1, I1, rx, C, T, hno, a, dd, fs, v, rfl, ha, hd, l, q⟩ := hh
  cases rx
  obtain ⟨oe, vs, g1, g2, g3⟩ := exK_at I1.hok ha
  have hx : ObjOk X.prog X.w H1 s1.heap dd (.xd fs) := I1.hok dd _ hd
  obtain ⟨mA, hns, hr⟩ := hx
  obtain ⟨od, ho, hl⟩ := lookIn_ns hns
  obtain ⟨u, hu, ru⟩ := RelO.some_of (v := v) (o := mA n) (by rw [← l]; exact hr n)
  have nc : PySem.W.notCls oe := by unfold PySem.W.notCls; rw [g3] <;> rfl
  exact HandSPX.exc_get I1.kIn (od := some od) ⟨g1, g2.1, nc, by rw [g2.2]; exact ho⟩ T.ga T.gg T.exC (PySem.W.findObj_own T.hdC hno rfl (by rw [hl, hu])) (handed_of ru) ⟨v, H1, I1.tok _, ru, q⟩
section
variable {K : PySem.W.Frag} {E : XK} {χ : Xq} {Γ : List Sk} {φ : D → Prop} {W : Wh}
def WE.fldX (f : Str) (e : WE K E) : WE K E := ⟨tFldX K f e.t, e.m, fun χ Γ φ => e.w χ Γ fun x => ∃ C ns ds y, x = .err C ns ds ∧ XfC K C ∧ PySem.W.findIn K (.ref C) f = some none ∧ lookD ns ds f = some y ∧ φ y, fun {p χ Γ φ} h σ Hd H n s sa pe l x Q q =>
  e.ok h σ Hd H n s sa pe l x _ fun v d' Hd1 H1 g1 pe1 ⟨C, ns, ds, y, e1, e2, e3, e4, f1⟩ r => by
    subst e1
    cases r with
    | err h1 h2 h3 h4 =>
      obtain ⟨v, q1, q2⟩ := look_zip h4 e4
      exact ⟨C, e2, e3, _, _, _, v, rfl, g1.s _ _ h1, g1.s _ _ h2, q1, q v y Hd1 H1 g1 pe1 f1 q2⟩
    | err0 h1 => cases e4⟩
theorem w_fldX {f : Str} {e : WE K E} : (WE.fldX f e).w χ Γ φ = e.w χ Γ fun x => ∃ C ns ds y, x = .err C ns ds ∧ XfC K C ∧ PySem.W.findIn K (.ref C) f = some none ∧ lookD ns ds f = some y ∧ φ y := rfl
end
/-- class C(Error): def __init__(self, f, g, h): self.f = f; self.g = g; self.h = h -/
theorem init3_ok {K : PySem.W.Frag} {f g u : Str} {vs : List V} {H : Hp} {Q : VK} {E : XK} (h : SpI K [f, g, u] vs H Q E) : tSeq (tOst K f (tVar 0) (tVar 1)) (tSeq (tOst K g (tVar 0) (tVar 2)) (tOst K u (tVar 0) (tVar 3))) { nx := fun _ H' => Q .non H', rt := Q } (L2.start ["self", "x", "y", "z"] vs) H := by
  obtain ⟨a, C, ws, rfl, hl, T, no, ha, q⟩ := h
  match ws, hl with
  | [y, z, x], _ =>
    refine ⟨_, rfl, _, rfl, a, C, rfl, T, no f (by simp), .inl ⟨ha, fun dx h1 h2 => ?_⟩⟩
    refine ⟨_, rfl, _, rfl, a, C, rfl, T, no g (by simp), .inr ⟨dx, [(f, y)], upd_same, by rw [upd_ne h2]; exact upd_same, (by show 1 ≤ 900; decide), ?_⟩⟩
    refine ⟨_, rfl, _, rfl, a, C, rfl, T, no u (by simp), .inr ⟨dx, [(g, z), (f, y)], by rw [upd_ne h2.symm]; exact upd_same, upd_same, (by show 2 ≤ 900; decide), ?_⟩⟩
    refine q dx _ h1 h2 (by rw [upd_ne h2.symm, upd_ne h2.symm]; exact upd_same) upd_same fun b n1 n2 => ?_
    rw [upd_ne n2, upd_ne n2, upd_ne n1, upd_ne n2]
theorem init3_fn {P : Program} {w : World} {K : PySem.W.Frag} {mg : Str → Option Value} {base : Heap} {qual f g u : Str} {st : Stmt} {fI : Addr} {fd : FuncData} {N ps : List Str} (F : Fun K "__init__" qual st fI fd) (S : FnScope N ps (defScope st)) (hN : N.length = 4) (hp : ps.length = 4)
    (hb : ∀ (cdv : Value) (A : Around) (outer : List Env) (s : Shared) (H : Hp) (E : XK), PSs (cxOf CX0 P w K mg base N qual (defScope st) fI cdv A outer s H E).nox (defBody st) (tSeq (tOst K f (tVar 0) (tVar 1)) (tSeq (tOst K g (tVar 0) (tVar 2)) (tOst K u (tVar 0) (tVar 3))))) : FnOk P w K mg base CX0 1 fI fd ps (SpI K [f, g, u]) :=
  F.ok (k := 0) S (fun vs H Q E h => by obtain ⟨a, C, ws, rfl, hl, _⟩ := h; rw [List.length_cons, hl, hp]; rfl) fun cdv A outer s H vs Q E hr h => ⟨_, hb cdv A outer s H E, by
    have e := init3_ok h (E := E)
    obtain ⟨a, C, ws, rfl, hl, _⟩ := h
    have e2 : L2.start N (.ref a :: ws) = L2.start ["self", "x", "y", "z"] (.ref a :: ws) := by
      unfold L2.start
      rw [hN]; rfl
    rw [e2]; exact e⟩
section
end
end DL
set_option maxRecDepth 100000
set_option maxHeartbeats 4000000
/-! DLy: error classes without __init__, isinstance of errors, try: raise .. except .. -/
namespace DL
open PySem L2 PySem.Spec PyProof.Rows
variable [Tbl]
/-- an own class of errors without an __init__ of its own -/
structure OexN (K : PySem.W.Frag) (mg : Str → Option Value) (x : Str) (C : Addr) : Prop where
  q : PySem.W.excIn K C [.type "ValueError", .type "Exception", .type "BaseException", .type "object"] "ValueError.__new__" = true
  exC : PySem.W.subIn K (.ref C) (.type "BaseException") = some true
  tyC : PySem.W.typeIn K (.ref C) = some (.type "type")
  kC : PySem.W.keepIn K (.ref C) = true
  m : mg x = some (.ref C)
section
variable {X : Cx} {x : Str} {C : Addr} {p pos pos2 : Pos}
theorem pmk_oexN (O : OexN X.K X.mg x C) (hg : Gl X x) (hdb : (x == ("__debug__" : Str)) = false := by decide) : PMk X (.Call (.Name x p) [] [] pos) (fun _ H Q => Q (.ref C) none H) :=
  pmk_none PySem.F.excBase_ValueError O.q O.m O.kC (raises_own O.exC O.tyC) hg hdb
theorem pe_mkE0 (O : OexN X.K X.mg x C) (hg : Gl X x) (hdb : (x == ("__debug__" : Str)) = false := by decide) : PE X (.Call (.Name x p) [] [] pos) (tKeep (fun _ H Q => Q (.ref C) none H)) := pe_keep (pmk_oexN O hg hdb)
theorem ps_raiseN {W : WX} (O : OexN X.K X.mg x C) (hc : X.calm = true) (tk : Takes X W) (hg : Gl X x) (hdb : (x == ("__debug__" : Str)) = false := by decide) : PS X (.Raise (some (.Call (.Name x p) [] [] pos)) none pos2) (fun _ σ H => W (.ref C) none σ H) :=
  ps_raise hc tk (pmk_oexN O hg hdb)
theorem ps_raiseW {W : WX} {fI : Addr} {ns : List Str} {j k : Nat} {e : Expr} {es : List Expr} {ta : TA} (O : OwnI X.prog X.w X.K X.mg X.base x C fI ns j) (hr : Room k X.A) (hj : j + 1 ≤ k) (hc : X.calm = true) (tk : Takes X W) (hg : Gl X x) (ha : PA X (e :: es) ta)
    (hdb : (x == ("__debug__" : Str)) = false := by decide) (he : starEach (e :: es) X.env = (false, eval e X.env) :: starEach es X.env := by rfl) (hpl : (backTo pos (starEach es X.env)).any (·.1) = false := by rfl) :
    PS X (.Raise (some (.Call (.Name x p) (e :: es) [] pos)) none pos2) (fun _ σ H => tMkO C (SpI X.K ns) [] ta σ H fun cls d H' => W cls d σ H') := by
  obtain ⟨fd, ps, F, hb⟩ := O.ex
  exact ps_raise hc tk (pmk_oex O.own.ox O.own.iC O.own.tI F (hr.mono hj) hb .nil pass0 hg O.own.m ha hdb he hpl)
end
/-- isinstance(e, c), e the error that the suite holds -/
def rIsP (K : PySem.W.Frag) (a : Addr) (cls : Value) (d : Option Addr) : List V → Hp → VK → Prop := fun xs H Q => ∃ (D : Addr) (c : V) (u : Value) (b : Bool), cls = .ref D ∧ ExcC K D ∧ xs = [.ref a, c] ∧ (∀ dd, d = some dd → ∃ fs, H dd = some (.xd fs)) ∧ ClsV c u ∧ PySem.W.kitOne K (.ref D) u = some b ∧ Q (.bl b) H
theorem call_isP {X : Cx} {a : Addr} {cls : Value} {d : Option Addr} {oe : Obj} {pn : List (Addr × Obj)} (hz : Zc cls d oe) (hf : ∃ vs, oe.data = .fields vs) : CallR (X.suite a ((a, oe) :: pn)) (.builtin "isinstance") (rIsP X.K a cls d) := by
  intro pins s σ H xs us Q I r h
  obtain ⟨D, c, u, b, rfl, C, rfl, hd, k, e, q⟩ := h
  obtain ⟨u1, u2, rfl, r1, r2⟩ := vals2 r
  cases r1
  have e2 := k.eq r2
  subst e2
  obtain ⟨ha, _⟩ := I.pin (a, oe) (List.mem_append_left _ List.mem_cons_self)
  obtain ⟨vs, hv⟩ := hf
  have nc : PySem.W.notCls oe := by unfold PySem.W.notCls; rw [hv] <;> rfl
  have hc : (PySem.W.clsIn X.K D).isSome = true := by
    cases z : PySem.W.clsIn X.K D with
    | none => have := C.hd; unfold PySem.W.hasDictIn at this; rw [z] at this; exact this
    | some _ => rfl
  obtain ⟨od, J⟩ : ∃ od, PySem.W.InstAt s.heap a oe D od := by
    cases d with
    | none => exact ⟨none, ha, hz.1, nc, by rw [hz.2]; exact True.intro⟩
    | some dd =>
      obtain ⟨fs, z⟩ := hd dd rfl
      have hx : ObjOk X.prog X.w H s.heap dd (.xd fs) := I.hok dd _ z
      obtain ⟨mA, hns, _⟩ := hx
      obtain ⟨o2, ho, _⟩ := lookIn_ns hns
      exact ⟨some o2, ha, hz.1, nc, by rw [hz.2]; exact ho⟩
  exact PySem.W.kia_one (PySem.W.kitx_exc hc C.hg C.hk C.hs C.ha C.hn C.ht C.hm) I.kIn J e (fun z => nomatch z) fun tk => ⟨.bl b, H, I.tok tk, rfl, q⟩
section
variable {K : PySem.W.Frag} {E : XK} {χ : Xq} {Γ : List Sk} {φ : D → Prop} {W : Wh}
def WE.isP (a : Addr) (cls : Value) (d : Option Addr) (c : V) (u : Value) (hc : ClsV c u) (e : WE K E) : WE K E := ⟨tCB (rIsP K a cls d) (tCons e.t (tCons (tC c) tNil)), e.m, fun χ Γ φ => e.w χ Γ fun x => ∃ D dx ns ds b, x = .exc a dx ns ds ∧ cls = .ref D ∧ d = some dx ∧ ExcC K D ∧ PySem.W.kitOne K (.ref D) u = some b ∧ φ (.bl b), fun {p χ Γ φ} h σ Hd H n s sa pe l x Q q =>
  e.ok h σ Hd H n s sa pe l x _ fun v d' Hd1 H1 g1 pe1 ⟨D, dx, ns, ds, b, e1, e2, e3, hC, hk, f⟩ r => by
    subst e1
    cases r with
    | exc h1 h2 h3 => exact ⟨D, c, u, b, e2, hC, rfl, fun dd e => by rw [e3] at e; cases e; exact ⟨_, g1.s _ _ h1⟩, hc, hk, q _ _ Hd1 H1 g1 pe1 f (.bl _)⟩⟩
theorem w_isP {a : Addr} {cls : Value} {d : Option Addr} {c : V} {u : Value} {hc : ClsV c u} {e : WE K E} : (WE.isP a cls d c u hc e).w χ Γ φ = e.w χ Γ fun x => ∃ D dx ns ds b, x = .exc a dx ns ds ∧ cls = .ref D ∧ d = some dx ∧ ExcC K D ∧ PySem.W.kitOne K (.ref D) u = some b ∧ φ (.bl b) := rfl
def WE.isX (c : V) (u : Value) (hc : ClsV c u) (a : WE K E) : WE K E := WE.isE c u hc (tC c) (fun _ _ _ q => q) a
theorem w_isX {c : V} {u : Value} {hc : ClsV c u} {a : WE K E} : (WE.isX c u hc a).w χ Γ φ = a.w χ Γ fun d => ∃ C ns ds b, d = .err C ns ds ∧ ExcC K C ∧ PySem.W.kitOne K (.ref C) u = some b ∧ φ (.bl b) := rfl
theorem isX_at {ψ : Bool → Prop} {C : Addr} {u : Value} {ns : List Str} {ds : List D} {b : Bool} (h : ExcC K C) (k : PySem.W.kitOne K (.ref C) u = some b) (f : ψ b) : ∃ C' ns' ds', D.err C ns ds = .err C' ns' ds' ∧ ExcC K C' ∧ ∃ b, PySem.W.kitOne K (.ref C') u = some b ∧ ψ b := ⟨_, _, _, rfl, h, _, k, f⟩
theorem isP_at {ψ : Bool → Prop} {x dx C : Addr} {u : Value} {ns : List Str} {ds : List D} {b : Bool} (h : ExcC K C) (k : PySem.W.kitOne K (.ref C) u = some b) (f : ψ b) : ∃ D' dx' ns' ds', D.exc x dx ns ds = .exc x dx' ns' ds' ∧ Value.ref C = .ref D' ∧ dx = dx' ∧ ExcC K D' ∧ ∃ b, PySem.W.kitOne K (.ref D') u = some b ∧ ψ b := ⟨_, _, _, _, rfl, rfl, rfl, h, _, k, f⟩
/-- try: raise C(..) except C1 as n: .. except .. -/
def WS.tryRaise (C : Addr) (ns : List Str) (a : WA K E) (T : OexC K C) (no : ∀ f ∈ ns, PySem.W.findIn K (.ref C) f = some none) (cl : List (Cl K E)) (m : Nat) (hm : ∀ q ∈ cl, ∀ a c d, (q.s a c d).m ≤ m) : WS K E :=
  ⟨fun En σ H => tMkO C (SpI K ns) [] a.t σ H fun cls d H' => wSome K (fun cls d _ H => E cls d H) En (clT cl) cls d σ H', a.m + m,
   fun χ Γ W => a.w χ Γ fun ds => ds.length = ns.length ∧ ds.length ≤ 1000 ∧ ChW K χ Γ W cl C (ns.zip ds).reverse,
   fun {p χ Γ W} h Hb Hd0 H0 σ Hd H n o l x En k1 k2 k3 k4 => by
    refine a.ok h σ Hd H n o.sr o.g.s o.pe (by omega) (x.grow o.g) _ fun vs ds Hd1 H1 g1 pe1 ⟨f1, f2, f3⟩ r => ⟨by rw [r.length]; exact f2, fun a' ha => ?_⟩
    refine ⟨a', C, vs, by rw [List.append_nil], by rw [r.length]; exact f1, T, no, upd_same, fun dx H2 h1 h2 e1 e2 e3 => ⟨rfl, dx, _, e1, e2, ?_, ?_⟩⟩
    · rw [upd_ne h2] at h1; exact h1
    · rw [upd_ne h2] at h1
      have eH : upd (del H2 a') dx (.xd (ns.zip vs).reverse) = upd H1 dx (.xd (ns.zip vs).reverse) := by
        funext b
        by_cases q : b = dx
        · subst q; rw [upd_same, upd_same]
        · rw [upd_ne q, upd_ne q]
          by_cases q2 : b = a'
          · subst q2; rw [del_same, ha]
          · rw [del_ne q2, e3 b q2 q, upd_ne q2]
      rw [eH]
      have g2 : Grow none Hd1 H1 (upd Hd1 dx (.xd (ns.zip vs).reverse)) (upd H1 dx (.xd (ns.zip vs).reverse)) := Grow.new g1.s h1
      have hz : (ns.zip vs).reverse = (((ns.zip ds).reverse).map (·.1)).zip vs.reverse := by
        have l1 : ns.length = vs.length := by rw [r.length, f1]
        rw [List.map_reverse, List.map_fst_zip (by omega)]
        rw [zip_rev (by omega)]
      refine chain_ok (n := n + a.m) (m := m) (o.grow (g1.trans g2.up) (pe1.grow g2)) (by omega) x (fun _ _ _ _ f o => k1 _ _ _ _ f (o.more (by omega))) (fun _ _ _ _ f o => k2 _ _ _ _ f (o.more (by omega))) (fun _ _ _ _ f o => k3 _ _ _ _ f (o.more (by omega))) (fun _ _ _ _ f g pe r => k4 _ _ _ _ f g (pe.more (by omega)) r) ?_ hm f3
      refine ⟨vs.reverse, ?_, ?_⟩
      · rw [← hz]; exact upd_same
      · rw [List.map_reverse, List.map_snd_zip (by omega)]
        exact (r.mono g2.d).reverse⟩
theorem w_tryRaise {C : Addr} {ns : List Str} {a : WA K E} {T : OexC K C} {no : ∀ f ∈ ns, PySem.W.findIn K (.ref C) f = some none} {cl : List (Cl K E)} {m : Nat} {hm : ∀ q ∈ cl, ∀ a c d, (q.s a c d).m ≤ m} :
    (WS.tryRaise C ns a T no cl m hm).w χ Γ W = a.w χ Γ fun ds => ds.length = ns.length ∧ ds.length ≤ 1000 ∧ ChW K χ Γ W cl C (ns.zip ds).reverse := rfl
/-- clauses without names -/
structure Cl0 (K : PySem.W.Frag) (E : XK) where
  c : Value
  s : WS K E
def cl0T (cl : List (Cl0 K E)) : List (Value × (Addr → Value → Option Addr → TS)) := cl.map fun q => (q.c, fun _ _ _ => q.s.t)
def Ch0 (K : PySem.W.Frag) (χ : Xq) (Γ : List Sk) (W : Wh) : List (Cl0 K E) → Addr → Prop
  | [], _ => False
  | q :: r, C => ∃ y, PySem.W.exmOne K (.ref C) q.c = some y ∧ (y = true → q.s.w χ Γ W) ∧ (y = false → Ch0 K χ Γ W r C)
theorem ch0_cons {q : Cl0 K E} {r : List (Cl0 K E)} {C : Addr} : Ch0 K χ Γ W (q :: r) C = ∃ y, PySem.W.exmOne K (.ref C) q.c = some y ∧ (y = true → q.s.w χ Γ W) ∧ (y = false → Ch0 K χ Γ W r C) := rfl
/-- try: raise C() except C1: .. except C2: .. -/
def WS.tryRaise0 (C : Addr) (cl : List (Cl0 K E)) (m : Nat) (hm : ∀ q ∈ cl, q.s.m ≤ m) : WS K E :=
  ⟨fun En σ H => wMany K (fun cls d _ H => E cls d H) En (cl0T cl) (.ref C) none σ H, m, fun χ Γ W => Ch0 K χ Γ W cl C,
   fun {p χ Γ W} h Hb Hd0 H0 σ Hd H n o l x En k1 k2 k3 k4 => by
    induction cl with
    | nil => exact h.elim
    | cons q r ih =>
      obtain ⟨y, f1, f2, f3⟩ := h
      refine ⟨y, f1, fun yt a' ha => ?_, fun yf => ih (fun q hq => hm q (List.mem_cons_of_mem _ hq)) (f3 yf)⟩
      have hm' := hm q List.mem_cons_self
      refine q.s.ok (f2 yt) Hb Hd0 H0 _ _ _ _ o (by omega) x _ ?_ ?_ ?_ ?_
      · intro Γ' σ' Hd' H' f o3; exact k1 _ _ _ _ f (o3.more (by omega))
      · intro Γ' σ' Hd' H' f o3; exact k2 _ _ _ _ f (o3.more (by omega))
      · intro Γ' σ' Hd' H' f o3; exact k3 _ _ _ _ f (o3.more (by omega))
      · intro v d Hd' H' f g pe r; exact k4 _ _ _ _ f g (pe.more (by omega)) r⟩
theorem w_tryRaise0 {C : Addr} {cl : List (Cl0 K E)} {m : Nat} {hm : ∀ q ∈ cl, q.s.m ≤ m} : (WS.tryRaise0 C cl m hm).w χ Γ W = Ch0 K χ Γ W cl C := rfl
end
/-! ### a table of error classes -/
inductive All1 {α : Type} (P : α → Prop) : List α → Prop
  | nil : All1 P []
  | cons {a : α} {l : List α} : P a → All1 P l → All1 P (a :: l)
theorem All1.at {α : Type} {P : α → Prop} : ∀ {l : List α}, All1 P l → ∀ a ∈ l, P a
  | _, .cons h r, a, ha => by
    rcases List.mem_cons.mp ha with rfl | z
    · exact h
    · exact All1.at r a z
/-- two by two no classes of one another -/
inductive Off (K : PySem.W.Frag) : List Addr → Prop
  | nil : Off K []
  | cons {C : Addr} {l : List Addr} : All1 (fun D => PySem.W.subIn K (.ref C) (.ref D) = some false ∧ PySem.W.subIn K (.ref D) (.ref C) = some false) l → Off K l → Off K (C :: l)
/-- what is told of error classes: cs, all below F -/
structure ErrTab (K : PySem.W.Frag) (cs : List Addr) (F : Addr) : Prop where
  ex : All1 (ExcC K) cs
  cl : All1 (fun C => PySem.W.isClsIn K C = true ∧ PySem.W.typeIn K (.ref C) = some (.type "type")) (F :: cs)
  se : All1 (fun C => PySem.W.subIn K (.ref C) (.ref C) = some true) cs
  off : Off K cs
  up : All1 (fun C => PySem.W.subIn K (.ref C) (.ref F) = some true) cs
  ve : All1 (fun C => PySem.W.subIn K (.ref C) (.type "ValueError") = some true) cs
  fb : PySem.W.subIn K (.ref F) (.type "BaseException") = some true
abbrev OwnC.adr {K : PySem.W.Frag} {mg : Str → Option Value} {x : Str} {C fI : Addr} {ns : List Str} (_ : OwnC K mg x C fI ns) : Addr := C
abbrev OexN.adr {K : PySem.W.Frag} {mg : Str → Option Value} {x : Str} {C : Addr} (_ : OexN K mg x C) : Addr := C
theorem Off.at {K : PySem.W.Frag} : ∀ {cs : List Addr} {i j : Nat} {C D : Addr}, Off K cs → cs[i]? = some C → cs[j]? = some D → i ≠ j → PySem.W.subIn K (.ref C) (.ref D) = some false
  | _, 0, 0, _, _, _, _, _, n => absurd rfl n
  | _, 0, j + 1, C, D, .cons h r, h1, h2, n => by
    simp at h1 h2
    subst h1
    exact (h.at D (List.mem_of_getElem? h2)).1
  | _, i + 1, 0, C, D, .cons h r, h1, h2, n => by
    simp at h1 h2
    subst h2
    exact (h.at C (List.mem_of_getElem? h1)).2
  | _, i + 1, j + 1, C, D, .cons h r, h1, h2, n => Off.at r (by simpa using h1) (by simpa using h2) (by omega)
theorem kit_self' {K : PySem.W.Frag} {C : Addr} : PySem.W.kitOne K (.ref C) (.ref C) = some true := by
  unfold PySem.W.kitOne
  rw [if_pos (beq_self_eq_true _)]
theorem kitCls_ref {K : PySem.W.Frag} {C D : Addr} {b : Bool} (h1 : PySem.W.isClsIn K D = true ∧ PySem.W.typeIn K (.ref D) = some (.type "type")) (h : PySem.W.subIn K (.ref C) (.ref D) = some b) : PySem.W.kitCls K (.ref C) (.ref D) = some b := by
  have h0 : (PySem.W.clsIn K D).isSome = true := h1.1
  show (if ((PySem.W.clsIn K D).isSome && PySem.W.typeIn K (.ref D) == some (.type "type")) = true then PySem.W.subIn K (.ref C) (.ref D) else none) = some b
  rw [if_pos (by rw [h0, h1.2] <;> rfl)]
  exact h
theorem kit_ref {K : PySem.W.Frag} {C D : Addr} {b : Bool} (n : C ≠ D) (h1 : PySem.W.isClsIn K D = true ∧ PySem.W.typeIn K (.ref D) = some (.type "type")) (h : PySem.W.subIn K (.ref C) (.ref D) = some b) : PySem.W.kitOne K (.ref C) (.ref D) = some b := by
  unfold PySem.W.kitOne
  rw [if_neg (fun z => n (Value.ref.inj (beq_iff_eq.mp z)))]
  exact kitCls_ref h1 h
section
variable {K : PySem.W.Frag} {cs : List Addr} {F C D : Addr} {i j : Nat}
theorem ErrTab.ne (T : ErrTab K cs F) (hi : cs[i]? = some C) (hj : cs[j]? = some D) (n : i ≠ j) : C ≠ D := fun e => by
  subst e
  have h1 := T.se.at C (List.mem_of_getElem? hi)
  rw [T.off.at hi hj n] at h1
  cases h1
theorem ErrTab.kit (T : ErrTab K cs F) (hi : cs[i]? = some C) (hj : cs[j]? = some D) : PySem.W.kitOne K (.ref C) (.ref D) = some (decide (i = j)) := by
  by_cases e : i = j
  · subst e
    rw [hi] at hj; cases hj
    rw [decide_eq_true rfl]; exact kit_self'
  · rw [decide_eq_false e]
    exact kit_ref (T.ne hi hj e) (T.cl.at D (List.mem_cons_of_mem _ (List.mem_of_getElem? hj))) (T.off.at hi hj e)
theorem ErrTab.kitF (T : ErrTab K cs F) (hC : C ∈ cs) : PySem.W.kitOne K (.ref C) (.ref F) = some true := by
  by_cases e : C = F
  · subst e; exact kit_self'
  · exact kit_ref e (T.cl.at F List.mem_cons_self) (T.up.at C hC)
theorem ErrTab.kitV (T : ErrTab K cs F) (hC : C ∈ cs) : PySem.W.kitOne K (.ref C) (.type "ValueError") = some true := by
  unfold PySem.W.kitOne
  have n : ¬ (Value.ref C == Value.type "ValueError") = true := fun z => by
    have e : Value.ref C = Value.type "ValueError" := beq_iff_eq.mp z
    cases e
  rw [if_neg n]
  show (if PySem.W.kitMeta "ValueError" = true then PySem.W.subIn K (.ref C) (.type "ValueError") else none) = some true
  rw [if_pos (by decide +kernel)]
  exact T.ve.at C hC
theorem ErrTab.exm (T : ErrTab K cs F) (hi : cs[i]? = some C) (hj : cs[j]? = some D) (n : i ≠ j) : PySem.W.exmOne K (.ref C) (.ref D) = some false := by
  unfold PySem.W.exmOne
  rw [(T.ex.at D (List.mem_of_getElem? hj)).hs, if_pos (show (some true == some true) = true by decide)]
  exact kitCls_ref (T.cl.at D (List.mem_cons_of_mem _ (List.mem_of_getElem? hj))) (T.off.at hi hj n)
theorem ErrTab.exmF (T : ErrTab K cs F) (hC : C ∈ cs) : PySem.W.exmOne K (.ref C) (.ref F) = some true := by
  unfold PySem.W.exmOne
  rw [T.fb, if_pos (show (some true == some true) = true by decide)]
  exact kitCls_ref (T.cl.at F List.mem_cons_self) (T.up.at C hC)
end
section
variable {c : Ct} {Hb Hd0 H0 : Hp} {σ : L2.St} {Γ : List Sk} {Hd H : Hp} {n i : Nat}
theorem Ok.nu (o : Ok c Hb Hd0 H0 σ Γ Hd H n) {a : Addr} (h : H a = none) : ∀ (j : Nat) k l, Γ[j]? = some k → k.isOwn = true → σ[j]? = some (some (.ref l)) → l ≠ a := fun j k l h1 h2 h3 z => by
  subst z
  have q := o.sr.ok j _ k h3 h1
  cases k with
  | own _ => obtain ⟨l', vs', e, e2, _⟩ := q; cases e; rw [h] at e2; cases e2
  | ow _ _ => obtain ⟨l', vs', e, e2, _⟩ := q; cases e; rw [h] at e2; cases e2
  | odk _ _ => obtain ⟨l', vs', e, e2, _⟩ := q; cases e; rw [h] at e2; cases e2
  | slf _ _ _ _ _ => obtain ⟨l', vs', e, e2, _⟩ := q; cases e; rw [h] at e2; cases e2
  | _ => cases h2
/-- a slot takes a local object that stands already -/
theorem Ok.adopt (o : Ok c Hb Hd0 H0 σ Γ Hd H n) {a : Addr} {k0 : Sk} (ho : k0.isOwn = true) (ha : SkAt c.K c.p Hd H (some (.ref a)) k0) (nu : ∀ (j : Nat) k l, Γ[j]? = some k → k.isOwn = true → σ[j]? = some (some (.ref l)) → l ≠ a) (f0 : H0 a = none) :
    Ok c Hb Hd0 H0 (σ.set i (some (.ref a))) (Γ.set i k0) Hd H n := by
  refine ⟨o.b, o.s0, o.g, ⟨?_, fun j o' k h1 h2 => ?_, fun j j' k1 k2 l nj h1 o1 h2 o2 e1 e2 => ?_⟩, o.pe, fun j k l h1 h2 h3 => ?_⟩
  · rw [List.length_set, List.length_set]; exact o.sr.len
  · by_cases e : i = j
    · subst e
      by_cases hl : i < Γ.length
      · rw [List.getElem?_set_self hl] at h2; cases h2
        rw [List.getElem?_set_self (by rw [o.sr.len]; exact hl)] at h1; cases h1
        exact ha
      · rw [List.getElem?_eq_none (by rw [List.length_set]; omega)] at h2; cases h2
    · rw [List.getElem?_set_ne e] at h1 h2
      exact o.sr.ok j _ _ h1 h2
  · by_cases a1 : i = j
    · subst a1
      have a2 : i ≠ j' := nj
      rw [List.getElem?_set_ne a2] at h2 e2
      have hl : i < σ.length := by
        have := (List.getElem?_eq_some_iff.mp e1).1
        rwa [List.length_set] at this
      rw [List.getElem?_set_self hl] at e1; cases e1
      exact nu j' k2 _ h2 o2 e2 rfl
    · rw [List.getElem?_set_ne a1] at h1 e1
      by_cases a2 : i = j'
      · subst a2
        have hl : i < σ.length := by
          have := (List.getElem?_eq_some_iff.mp e2).1
          rwa [List.length_set] at this
        rw [List.getElem?_set_self hl] at e2; cases e2
        exact nu j k1 _ h1 o1 e1 rfl
      · rw [List.getElem?_set_ne a2] at h2 e2
        exact o.sr.ap j j' k1 k2 l nj h1 o1 h2 o2 e1 e2
  · by_cases e : i = j
    · subst e
      have hl : i < σ.length := by
        have := (List.getElem?_eq_some_iff.mp h3).1
        rwa [List.length_set] at this
      rw [List.getElem?_set_self hl] at h3; cases h3
      exact f0
    · rw [List.getElem?_set_ne e] at h1 h3
      exact o.fr j k l h1 h2 h3
end
section
variable {K : PySem.W.Frag} {E : XK} {χ : Xq} {Γ : List Sk} {W : Wh}
/-- xs, y = [..], e : the first one's own -/
def WS.parOL (i j : Nat) (a : WA K E) (b : WE K E) : WS K E := ⟨tPar i j (tCons (tLst a.t) (tCons b.t tNil)), a.m + b.m, fun χ Γ W => a.w χ Γ fun ds => ds.length ≤ 1000 ∧ b.w χ Γ fun d => W.N ((Γ.set i (.own ds)).set j (.dat d)), fun {p χ Γ W} h Hb Hd0 H0 σ Hd H n o l x En k1 k2 k3 k4 => by
  refine a.ok h σ Hd H n o.sr o.g.s o.pe (by omega) (x.grow o.g) _ fun vs ds Hd1 H1 g1 pe1 ⟨f1, f2⟩ r => ⟨Nat.le_of_lt (small1000 (by rw [r.length]; exact f1)), fun a' ha => ?_⟩
  have o1 := o.grow g1 pe1
  have ne := Pn.ne_of o1.pe ha
  have gl := Grow.loc (p := p.a) (o := HO.lst vs) o1.g.s ha
  have oL := o1.grow gl (pe1.write ne (pl_free ha))
  have hd : Hd1 a' = none := o1.g.s.free ha
  refine b.ok f2 σ Hd1 _ (n + a.m) oL.sr oL.g.s oL.pe (by omega) (x.grow oL.g) _ fun v d Hd2 H2 g2 pe2 f3 r2 => ?_
  have o2 := oL.grow g2 pe2
  have e2 : H2 a' = some (.lst vs) := g2.h _ _ ne (.inr fun _ z => by cases z) upd_same
  have n2 : Hd2 a' = none := g2.f _ (by rw [upd_same]; simp) hd
  have o3 := o2.adopt (i := i) (a := a') (k0 := .own ds) rfl ⟨a', vs, rfl, e2, n2, r.mono g2.d, ne⟩ (o1.nu ha) (o1.g.free ha)
  exact ⟨_, _, rfl, k1 _ _ _ _ f3 ((o3.set r2).more (by omega))⟩⟩
theorem w_parOL {i j : Nat} {a : WA K E} {b : WE K E} : (WS.parOL i j a b).w χ Γ W = a.w χ Γ fun ds => ds.length ≤ 1000 ∧ b.w χ Γ fun d => W.N ((Γ.set i (.own ds)).set j (.dat d)) := rfl
def OwAt (Γ : List Sk) (i : Nat) (φ : Addr → List D → Prop) : Prop := match Γ[i]? with | some (.ow a ds) => φ a ds | _ => False
theorem owAt_0 {a : Addr} {ds : List D} {φ : Addr → List D → Prop} : OwAt (.ow a ds :: Γ) 0 φ = φ a ds := rfl
theorem owAt_s {s : Sk} {i : Nat} {φ : Addr → List D → Prop} : OwAt (s :: Γ) (i + 1) φ = OwAt Γ i φ := rfl
theorem w_pvar {i : Nat} {φ : D → Prop} : (WE.pvar (K := K) (E := E) i).w χ Γ φ = OwAt Γ i fun a _ => φ (.ptr a) := rfl
theorem w_name {i : Nat} {s : WS K E} : (WS.name i s).w χ Γ W = OwnAt Γ i fun ds => ∀ a, s.w χ (Γ.set i (.ow a ds)) W := rfl
theorem w_tell {i : Nat} {s : WS K E} : (WS.tell i s).w χ Γ W = OwAt Γ i fun a ds => s.w χ ((Γ.set i (.dat (.lst ds))).map (Sk.sub a ds)) W := rfl
theorem w_appendO {i : Nat} {e : WE K E} : (WS.appendO i e).w χ Γ W = OwAt Γ i fun a ds => e.w χ Γ fun d => ds.length < 1000000 ∧ W.N (Γ.set i (.ow a (ds ++ [d]))) := rfl
end
section
variable {a b : Addr} {es : List D}
theorem sub_un : Sk.sub a es .un = .un := rfl
theorem sub_pen : Sk.sub a es .pen = .pen := rfl
theorem sub_dat {d : D} : Sk.sub a es (.dat d) = .dat (d.sub a es) := rfl
theorem dsub_non : D.sub a es .non = .non := by unfold D.sub; rfl
theorem dsub_bl {b : Bool} : D.sub a es (.bl b) = .bl b := by unfold D.sub; rfl
theorem dsub_int {b : Int} : D.sub a es (.int b) = .int b := by unfold D.sub; rfl
theorem dsub_str {b : Str} : D.sub a es (.str b) = .str b := by unfold D.sub; rfl
theorem dsub_ptr : D.sub a es (.ptr a) = .lst es := by unfold D.sub; rw [if_pos rfl]
theorem dsub_lst {ds : List D} : D.sub a es (.lst ds) = .lst (D.subs a es ds) := by rw [D.sub]
theorem dsub_tup {ds : List D} : D.sub a es (.tup ds) = .tup (D.subs a es ds) := by rw [D.sub]
theorem dsub_err {C : Addr} {ns : List Str} {ds : List D} : D.sub a es (.err C ns ds) = .err C ns (D.subs a es ds) := by rw [D.sub]
theorem dsubs_nil : D.subs a es [] = [] := by rw [D.subs]
theorem dsubs_cons {d : D} {ds : List D} : D.subs a es (d :: ds) = d.sub a es :: D.subs a es ds := by rw [D.subs]
end
/-! ### the facts at a law's start -/
structure BaseC (mg : Str → Option Value) (x : Str) (C : Addr) : Prop where
  m : mg x = some (.ref C)
abbrev BaseC.adr {mg : Str → Option Value} {x : Str} {C : Addr} (_ : BaseC mg x C) : Addr := C
section
variable {K : PySem.W.Frag} {h : Heap} {mg : Str → Option Value} {x : Str} {C : Addr} {goal : Prop}
theorem oexN_then (X : K.In h) (G : h.Ns mainGlobals mg) (aC : PySem.W.nsIn K mainGlobals x = some (some (.ref C))) (q : PySem.W.excIn K C [.type "ValueError", .type "Exception", .type "BaseException", .type "object"] "ValueError.__new__" = true)
    (eC : PySem.W.subIn K (.ref C) (.type "BaseException") = some true) (tC : PySem.W.typeIn K (.ref C) = some (.type "type")) (kC : PySem.W.keepIn K (.ref C) = true) (r : OexN K mg x C → goal) : goal := r ⟨q, eC, tC, kC, PySem.W.mg_of X G aC⟩
theorem base_then (X : K.In h) (G : h.Ns mainGlobals mg) (aC : PySem.W.nsIn K mainGlobals x = some (some (.ref C))) (r : BaseC mg x C → goal) : goal := r ⟨PySem.W.mg_of X G aC⟩
end
end DL
set_option maxRecDepth 100000
set_option maxHeartbeats 4000000
/-! DLn: a lambda without parameters, handed to a def that calls it within a try. -/
namespace DL
open PySem PySem.Spec PyProof.Rows L2 LamX
variable [Tbl]
abbrev lamQ (X : Cx) : Str := X.env.qual ++ "<lambda>"
section
variable {X : Cx} {pins : List (Addr × Obj)} {σ : L2.St} {H : Hp} {s : Shared}
theorem upd_emp {H : Hp} {a b : Addr} {o : HO} (e : upd H a o b = none) : H b = none := by
  by_cases z : b = a
  · subst z; rw [upd_same] at e; cases e
  · rw [upd_ne z] at e; exact e
/-- the lambda's object; nothing that was known is forgotten -/
theorem mk_lam {T : List (Addr × Str)} {c P : Addr} {params : Arguments} {body : Expr} {scope : Scope} {pos : Pos} {E : Value → Shared → Prop} {Q : Value → Shared → Prop} (I : Inv X pins σ H s) (TB : TabB X.base X.mg c P) (hcode : X.env.code = .ref c)
    (hm : (P, lamQ X) ∈ T) (hu : ∀ q ∈ T, q.1 = P → q.2 = lamQ X) (hT : Tabs T H) (hdef : defaultsOf params X.env = ([], [])) (hfree : ∀ y ∈ scope.names, y.2 = .free → ∃ c, X.env.cells.lookup y.1 = some c)
    (h : ∀ (f c' : Addr) (pm ctv : Value) (H1 : Hp) (z : Shared), Inv X pins σ H1 z → (∀ b o, b ≠ P → H b = some o → H1 b = some o) → (∀ b, H1 b = none → H b = none) → Tabs T H1 →
      z.heap.get? f = some (PySem.W.kla_obj "<lambda>" (lamQ X) params body scope (cloFrom X.env.cells scope.names []) pm c' ctv) → H1 f = none → f ∉ frs X.stack → H1 c' = some (CodeO c' (lamQ X)) → Q (.ref f) z) :
    wpAny (model X.prog X.w) X.A (eval (.Lambda params body scope pos) X.env) Q E s := by
  obtain ⟨ps, hP, ht, ha⟩ := hT _ hm
  have inP : s.heap.get? P = some { cls := .none, data := .fields ps } := I.hok P _ hP
  have bP : s.heap.BuiltinsAt X.mg P := TB.bm.keeps I.bk
  have fresh : ∀ f, s.heap.objs.size ≤ f → f ∉ frs X.stack := fun f hf z => by
    rcases List.mem_cons.mp (I.stkSub _ z) with e | e
    · exact absurd I.lt (by rw [← e]; exact Nat.not_lt_of_le hf)
    · exact I.nofs hf e
  refine PySem.W.kla_eval hdef ?_
  cases hc : codeAmong pos ps.toList with
  | some cv =>
    obtain ⟨c', rfl, hco⟩ := ha pos cv hc
    refine PySem.W.kla_makeFunctionHit (mg := X.mg) (c := c) (P := P) (ps := ps) (closure_ok hfree) I.ok.glob (I.mod.glob.keeps I.bk) hcode (TB.code.keeps I.bk) inP ht hc bP fun ctv h' tk hx hsz => ?_
    exact h _ c' _ ctv H _ (I.kept fun b o e => Heap.get?_push_of_some _ (hx b o e)) (fun _ _ _ z => z) (fun _ z => z) hT (Heap.get?_push_size _ rfl) (I.hok.fresh hsz) (fresh _ hsz) hco
  | none =>
    refine PySem.W.kla_makeFunction (mg := X.mg) (c := c) (P := P) (ps := ps) (closure_ok hfree) I.ok.glob (I.mod.glob.keeps I.bk) hcode (TB.code.keeps I.bk) inP ht hc TB.gP bP fun c' ctv h' tk hx hge hlt hrec htb => ?_
    obtain ⟨c2, oc, vs, t, e2, hoc, hd, hv⟩ := hrec
    cases e2
    have big : s.heap.objs.size ≤ h'.objs.size := Nat.le_trans hge (Nat.le_of_lt hlt)
    have free : H c' = none := I.hok.fresh hge
    have I1 := inv_table (q := lamQ X) (t' := tk) (more := #[rawInt pos.line, rawInt pos.col, .ref c']) (h' := h'.push (PySem.W.kla_obj "<lambda>" (lamQ X) params body scope (cloFrom X.env.cells scope.names []) ((X.mg "__name__").getD .none) c' ctv)) I hP
      (fun b o hb e => Heap.get?_push_of_some _ (hx b o hb e)) (Heap.get?_push_of_some _ htb) hge ⟨oc, vs, t, Heap.get?_push_of_some _ hoc, hd, hv⟩
    have ext : ExtN H (upd (upd H P (.tbl (ps ++ #[rawInt pos.line, rawInt pos.col, .ref c']))) c' (CodeO c' (lamQ X))) := fun b o e n => by
      have n1 : b ≠ P := fun z => by subst z; rw [hP] at e; cases e; exact n _ rfl
      rw [upd_ne (ne_of_none e free), upd_ne n1]; exact e
    refine h h'.objs.size c' _ ctv _ _ I1 (fun b o n e => by rw [upd_ne (ne_of_none e free), upd_ne n]; exact e) (fun b z => upd_emp (upd_emp z)) (fun q hq => ?_) (Heap.get?_push_size _ rfl) ?_ (fresh _ big) upd_same
    · by_cases hb : q.1 = P
      · rw [hu q hq hb, hb]
        have eL : (ps ++ #[rawInt pos.line, rawInt pos.col, .ref c']).toList = ps.toList ++ [rawInt pos.line, rawInt pos.col, .ref c'] := by simp
        refine ⟨_, by rw [upd_ne (ne_of_none hP free)]; exact upd_same, by rw [eL]; exact PySem.TriplesOk_snoc _ _ _ _ ht, fun p' cv hcv => ?_⟩
        rw [eL] at hcv
        rcases among_app _ ht hcv with z | z
        · obtain ⟨c0, e1, e2⟩ := ha p' cv z
          exact ⟨c0, e1, ext _ _ e2 codeO_ne⟩
        · exact ⟨c', z, upd_same⟩
      · obtain ⟨ps', a1, a2, a3⟩ := hT q hq
        refine ⟨ps', by rw [upd_ne (ne_of_none a1 free), upd_ne hb]; exact a1, a2, fun p' cv hcv => ?_⟩
        obtain ⟨c0, e1, e2⟩ := a3 p' cv hcv
        exact ⟨c0, e1, ext _ _ e2 codeO_ne⟩
    · rw [upd_ne (Nat.ne_of_gt hlt), upd_ne (Nat.ne_of_gt (Nat.lt_of_lt_of_le (Heap.lt_size inP) big))]
      exact I.hok.fresh big
/-- how the def that got it reads the call -/
def tThk (f c' : Addr) (q : Str) (tl : XK → Hp → VK → Prop) (W : WX) : TE := fun σZ HZ Q => σZ[0]? = some (some (.ref f)) ∧ HZ c' = some (CodeO c' q) ∧ tl (fun cls d H' => W cls d σZ H') HZ Q
variable {s1 : Shared} {HZ : Hp}
theorem act_lam {CXg : CXT} {Eg : XK} {Ng : List Str} {qg : Str} {sg : Scope} {g f c' : Addr} {cdg pm ctv : Value} {params : Arguments} {body : Expr} {scope : Scope} {k : Nat} {a : Str} {pn : List (Addr × Obj)} {xe : Value → Shared → Prop} {W : WX} {tb : XK → TE} {p1 p2 : Pos}
    (I : Inv X pins σ H s) (L : LamS X.env.scope scope) (hf : s.heap.get? f = some (PySem.W.kla_obj "<lambda>" (lamQ X) params body scope (cloFrom X.env.cells scope.names []) pm c' ctv)) (hfn : H f = none) (hfr : f ∉ frs X.stack)
    (hbind : bindArgs (PySem.W.kla_fn "<lambda>" (lamQ X) params body scope (cloFrom X.env.cells scope.names []) pm (.ref c') ctv) ⟨[], []⟩ = pure [])
    (tk : Takes ((cxOf CXg X.prog X.w X.K X.mg X.base Ng qg sg g cdg X.A X.stack s H Eg).tr pn xe) W) (hr : Room (k + 1) (X.A.deeper (envOfC qg sg s.heap.objs.size g cdg))) (ng : NoG X.A)
    (hbody : ∀ (A : Around) (outer : List Env) (z : Shared) (HZ : Hp) (E : XK), Room k (A.deeper (lamEnv X scope z.heap.objs.size f c')) → NoG (A.deeper (lamEnv X scope z.heap.objs.size f c')) → PE (lamCx X A outer z HZ E scope f c') body (tb E))
    (hN : Ng[0]? = some a) (hv : Vis sg a) (hd : (a == ("__debug__" : Str)) = false) (hcd : (a == ("__classdict__" : Str)) = false) :
    PE ((cxOf CXg X.prog X.w X.K X.mg X.base Ng qg sg g cdg X.A X.stack s H Eg).tr pn xe) (.Call (.Name a p1) [] [] p2) (tThk f c' (lamQ X) (fun E HZ Q => tb E σ HZ Q) W) := by
  refine ⟨fun pz sZ σZ HZ Q IZ ⟨h1, hco, h3⟩ => ?_⟩
  refine wpAny_Call_Name_kw (thn ((pe_var (pos := p1) (i := 0) hN hv hd hcd).run pz sZ σZ HZ (fun v H1 => v = .ref f ∧ H1 = HZ) IZ ⟨.ref f, h1, rfl, rfl⟩) fun u s1 ⟨v, H1, I1, r1, ev, eH⟩ => ?_)
  subst ev
  subst eH
  obtain rfl : u = Value.ref f := r1
  have at_ : s1.heap.get? f = some (PySem.W.kla_obj "<lambda>" (lamQ X) params body scope (cloFrom X.env.cells scope.names []) pm c' ctv) := I1.base.keep f _ hf hfn hfr (fun z => nomatch (show f ∈ ([] : List Addr) from z))
  refine PySem.W.callWith_F0 ⟨_, _, _, _, at_⟩ ?_
  have un : Un (frs X.stack) [] H H1 s.heap s1.heap := I1.base
  obtain ⟨⟨oc, vs, t, hoc, hdc, hvc⟩, _, _⟩ := I1.hok c' _ hco
  have run : codeAny (model X.prog X.w) (X.A.deeper (envOfC qg sg s.heap.objs.size g cdg)) (.call (.ref f) ⟨[], []⟩) (CR (L2.CX X.prog X.w) (envOfC qg sg s.heap.objs.size g cdg :: X.stack) X.prog X.w H1 s1 Q (fun cls d H' => W cls d σZ H')) s1 := by
    refine PySem.W.kla_callFunE hr.depth at_ rfl L.co L.gen rfl ⟨c', oc, vs, t, rfl, hoc, hdc, hvc⟩ ?_
    rw [hbind]
    refine wpAny_pure (wpAny_newFunctionEnv (fun y hy => (L.own y hy).2) (fun y hy => absurd hy (by simp)) (fun h₁ hns hsb => ⟨I1.nolimit.fresh _ hsb, ?_⟩) L.kind)
    show codeAny _ _ (.expr body (lamEnv X scope s1.heap.objs.size f c')) _ _
    have J := lam_start2 (E := fun cls d H' => W cls d σZ H') (f := f) (c' := c') (tk := s1.toks + ([] : List (Str × Value)).length) I L I1.env0 hr.hd un hns (fun b o e => hsb.extBut b o (Nat.ne_of_lt (Heap.lt_size e)) (Heap.get?_push_of_some _ e))
    refine PySem.W.kla_codeExpr (wpAny_mono ((hbody _ _ s1 H1 _ (hr.deeper _) ng).run [] _ _ H1 Q J h3) (fun v z hq => ?_) fun e z hq => hq)
    obtain ⟨w', H', J', rv, q⟩ := hq
    exact ⟨w', H', J'.os, J'.bare, J'.base, J'.hok, rv, q⟩
  have out := passAt tk σZ
  refine wpAny_call (codeAny_mono run fun r z hq => ?_)
  cases r with
  | error e => exact out pz H1 s1 e z I1 hq
  | ok fl =>
    cases fl with
    | ret u => exact I1.after hq
    | next => exact hq.elim
    | brk => exact hq.elim
    | cont => exact hq.elim
end
/-! ### the def that gets it -/
abbrev Thk := XK → Hp → VK → Prop
/-- the def x (one parameter, a) reads as T if its argument reads as the thunk -/
def Told (P : Program) (w : World) (K : PySem.W.Frag) (mg : Str → Option Value) (base : Heap) (x : Str) (N : List Str) (st : Stmt) (a : Str) (T : Addr → Addr → Str → Thk → TS) : Prop :=
  ∀ (g : Addr) (cdg : Value) (A : Around) (outer : List Env) (s : Shared) (H : Hp) (f c' : Addr) (q : Str) (tl : Thk),
    (∀ (W : WX) (pn : List (Addr × Obj)) (xe : Value → Shared → Prop) (p1 p2 : Pos), Takes ((cxOf CX0 P w K mg base N x (defScope st) g cdg A outer s H C8.E0).tr pn xe) W →
      PE ((cxOf CX0 P w K mg base N x (defScope st) g cdg A outer s H C8.E0).tr pn xe) (.Call (.Name a p1) [] [] p2) (tThk f c' q tl W)) →
    PSs (cxOf CX0 P w K mg base N x (defScope st) g cdg A outer s H C8.E0).nox (defBody st) (T f c' q tl)
def tLamW (N : List Str) (T : Addr → Addr → Str → Thk → TS) (P : Addr) (q : Str) (t : XK → TE) : TE := fun σ H Q => Tabs Tbl.T H ∧ ∀ (H1 : Hp) (f c' : Addr), (∀ b o, b ≠ P → H b = some o → H1 b = some o) → (∀ b, H1 b = none → H b = none) → Tabs Tbl.T H1 →
  H1 c' = some (CodeO c' q) → T f c' q (fun E H' Q' => t E σ H' Q') { nx := fun _ H' => Q .non H', rt := Q } (L2.start N [.ref f]) H1
section
variable {X : Cx}
theorem pe_lamW {T : Addr → Addr → Str → Thk → TS} {x a q : Str} {N : List Str} {st : Stmt} {c P : Addr} {k : Nat} {params : Arguments} {body : Expr} {scope : Scope} {t : XK → TE} {p lpos pos : Pos}
    (D : Def X.K X.mg x st [a] []) (S : FnScope N [a] (defScope st)) (hN : N[0]? = some a) (hva : Vis (defScope st) a) (Td : Told X.prog X.w X.K X.mg X.base x N st a T) (hg : Gl X x) (hr : Room (k + 2) X.A) (ng : NoG X.A)
    (TB : TabB X.base X.mg c P) (hcode : X.env.code = .ref c) (hq : lamQ X = q) (hmT : (P, q) ∈ Tbl.T) (hu : ∀ z ∈ Tbl.T, z.1 = P → z.2 = q) (L : LamS X.env.scope scope) (hdef : defaultsOf params X.env = ([], []))
    (hbind : ∀ (q : Str) (cl : List (Str × Addr)) (pm cv ctv : Value), bindArgs (PySem.W.kla_fn "<lambda>" q params body scope cl pm cv ctv) ⟨[], []⟩ = pure [])
    (hbody : ∀ (A : Around) (outer : List Env) (s : Shared) (H : Hp) (E : XK) (f c' : Addr), Room k (A.deeper (lamEnv X scope s.heap.objs.size f c')) → NoG (A.deeper (lamEnv X scope s.heap.objs.size f c')) → PE (lamCx X A outer s H E scope f c') body (t E))
    (hdb : (x == ("__debug__" : Str)) = false := by decide) (hd : (a == ("__debug__" : Str)) = false := by decide) (hcd : (a == ("__classdict__" : Str)) = false := by decide) :
    PE X (.Call (.Name x p) [.Lambda params body scope lpos] [] pos) (tLamW N T P q t) := by
  subst hq
  refine ⟨fun pins s σ H Q I ⟨hT, h⟩ => ?_⟩
  obtain ⟨g, fd, ds, F, hm, hb, hds⟩ := D.ex
  cases hds
  obtain ⟨oc, od, dV, kV, doc, pm, an, cdv, ct, osl, rfl, lk, hcg⟩ := F.ex
  refine wpAny_Call_Name_kw (ld_glob I hg hm ?_ hdb)
  refine PySem.W.callWith_K (h₀ := X.base) I.ok.mod.kin F.kp ?_ (by rfl) (by rfl)
  show wpAny _ _ (spliced ((false, eval (.Lambda params body scope lpos) X.env) :: backTo pos (starEach [] X.env))) _ _ s
  refine Calls.spliced_cons (mk_lam I TB hcode hmT hu hT hdef (L.has I.ok) fun f c' pm' ctv H1 z I1 eP eN T1 hf hfn hfr hco => ?_)
  refine Calls.spliced_nil ⟨I1.kIn, ?_⟩
  have run : codeAny (model X.prog X.w) X.A (.call (.ref g) ⟨[.ref f], []⟩) (CR CX0 X.stack X.prog X.w H1 z Q C8.E0) z := by
    refine run_ofS (N := N) (ps := [a]) (us := [.ref f]) (vs := [.ref f]) lk hcg S hr I1.env0 (hb z [.ref f] I1.kIn rfl) (.cons rfl .nil) rfl fun hr' => ⟨_, ?_, h H1 f c' eP eN T1 hco⟩
    have := Td g cdv X.A X.stack z H1 f c' (lamQ X) (fun E H' Q' => t E σ H' Q') fun W pn xe p1 p2 tk => act_lam I1 L hf hfn hfr (hbind _ _ _ _ _) tk hr' ng (fun A outer s H E hr2 ng2 => hbody A outer s H E f c' hr2 ng2) hN hva hd hcd
    exact this.nox
  refine wpAny_call (codeAny_mono run fun r s2 hq => ?_)
  cases r with
  | error e => exact (show False from hq).elim
  | ok fl =>
    cases fl with
    | ret u => exact I1.after hq
    | next => exact hq.elim
    | brk => exact hq.elim
    | cont => exact hq.elim
end
/-! ### the bundle -/
def Sk.np : Sk → Sk
  | .pen => .un
  | k => k
theorem np_un : Sk.np .un = .un := rfl
theorem np_dat {d : D} : Sk.np (.dat d) = .dat d := rfl
theorem np_own {ds : List D} : Sk.np (.own ds) = .own ds := rfl
theorem np_pen : Sk.np .pen = .un := rfl
theorem np_ow {a : Addr} {ds : List D} : Sk.np (.ow a ds) = .ow a ds := rfl
theorem np_odk {ks : List Key} {ds : List D} : Sk.np (.odk ks ds) = .odk ks ds := rfl
theorem np_isOwn (k : Sk) : k.np.isOwn = k.isOwn := by cases k <;> rfl
theorem SR.np {K : PySem.W.Frag} {p : Pn} {Hd H : Hp} {σ : L2.St} {Γ : List Sk} (s : SR K p Hd H σ Γ) : SR K none Hd H σ (Γ.map Sk.np) := by
  refine ⟨by rw [List.length_map]; exact s.len, fun i o k h1 h2 => ?_, fun i j k1 k2 l ne h1 o1 h2 o2 e1 => ?_⟩
  · rw [List.getElem?_map] at h2
    cases z : Γ[i]? with
    | none => rw [z] at h2; cases h2
    | some k0 =>
      rw [z] at h2
      obtain rfl : k0.np = k := Option.some.inj h2
      have old := s.ok i o k0 h1 z
      cases k0 with
      | un => exact True.intro
      | dat d => exact old
      | own ds => obtain ⟨l, vs, e, a1, a2, a3, _⟩ := old; exact ⟨l, vs, e, a1, a2, a3, by simp⟩
      | ow a ds => obtain ⟨l, vs, e, a1, al, a2, a3, _⟩ := old; exact ⟨l, vs, e, a1, al, a2, a3, by simp⟩
      | odk ks ds => obtain ⟨l, vs, e, a1, al, a2, a3, _⟩ := old; exact ⟨l, vs, e, a1, al, a2, a3, by simp⟩
      | slf a C dx ns ds => obtain ⟨l, vs, e, a1, al, a2, a3, _⟩ := old; exact ⟨l, vs, e, a1, al, a2, a3, by simp⟩
      | pen => exact True.intro
  · rw [List.getElem?_map] at h1 h2
    cases z1 : Γ[i]? with
    | none => rw [z1] at h1; cases h1
    | some a1 =>
      cases z2 : Γ[j]? with
      | none => rw [z2] at h2; cases h2
      | some a2 =>
        rw [z1] at h1; rw [z2] at h2
        cases h1; cases h2
        rw [np_isOwn] at o1 o2
        exact s.ap i j a1 a2 l ne z1 o1 z2 o2 e1
structure ToldS (K : PySem.W.Frag) where
  N : List Str
  T : Addr → Addr → Str → Thk → TS
  m : Nat
  w : (Xq → (D → Prop) → Prop) → (D → Prop) → Prop
  ok : ∀ {p : Pn} {n : Nat} {Hd H : Hp} {f c' : Addr} {q : Str} {tl : Thk} {Q : VK} {φ : D → Prop} {tw : Xq → (D → Prop) → Prop}, Same Hd H → PenO p n Hd H → n + m ≤ LIM → H c' = some (CodeO c' q) →
    (∀ χ1 φ1, tw χ1 φ1 → ∀ E', Xs ⟨K, none, E', χ1⟩ Hd H → ∀ Q' : VK, (∀ v d Hd' H', Grow none Hd H Hd' H' → φ1 d → Rep K Hd' v d → Q' v H') → tl E' H Q') → w tw φ →
    (∀ v d Hd' H', Grow p.a Hd H Hd' H' → PenO p (n + m) Hd' H' → φ d → Rep K Hd' v d → Q v H') → T f c' q tl { nx := fun _ H' => Q .non H', rt := Q } (L2.start N [.ref f]) H
section
variable {K : PySem.W.Frag} {E : XK}
/-- the def x, given lambda: b -/
def WE.lam (S : ToldS K) (ip : Nat) (P : Addr) (q : Str) (b : ∀ E' : XK, WE K E') (hP : ∃ z ∈ Tbl.T, z.1 = P) (hb : ∀ E', (b E').m = 0) : WE K E :=
  ⟨tLamW S.N S.T P q fun E' => (b E').t, S.m, fun χ Γ φ => Γ[ip]? = some .pen ∧ S.w (fun χ1 φ1 => ∀ E', (b E').w χ1 (Γ.map Sk.np) φ1) φ,
   fun {p χ Γ φ} h σ Hd H n s sa pe l x Q q0 => by
    obtain ⟨hp, hw⟩ := h
    obtain ⟨_, _, a0, _, hpa⟩ := s.get hp
    cases p with
    | none => exact absurd hpa (by simp)
    | some ac =>
      have td := (show PenAt n Hd H ac.1 ac.2 from pe).t
      obtain ⟨z, hz, rfl⟩ := hP
      refine ⟨td.1, fun H1 f c' eP eN T1 hco => ?_⟩
      obtain ⟨ps, atP, _⟩ := td.1 z hz
      have sa1 : Same Hd H1 := fun b o e => eP b o (fun y => by rw [y, td.2 z hz] at e; cases e) (sa b o e)
      have g1 : Grow (some ac.1) Hd H Hd H1 := ⟨Same.refl _, fun b o _ k e => eP b o (fun y => by
          subst y
          rw [atP] at e
          rcases k with k | k
          · cases k
          · cases e; exact k _ rfl) e, sa1, fun _ _ y => y, fun b e y => e (eN b y), fun _ => T1⟩
      have pe1 : PenO (some ac) n Hd H1 := by
        obtain ⟨⟨i, dg, ct, fd, e1, e2⟩, e3, e4, _⟩ := (show PenAt n Hd H ac.1 ac.2 from pe)
        exact ⟨⟨i, dg, ct, fd, eP _ _ (fun y => by rw [y, atP] at e1; cases e1) e1, e2⟩, e3, e4, T1, td.2⟩
      have s1 : SR K (some ac) Hd H1 σ Γ := by
        exact s.grow g1
      refine S.ok (p := some ac) (φ := φ) sa1 pe1 l hco (fun χ1 φ1 tw E' xs Q' hQ' => ?_) hw fun v d Hd' H' g pe' f r => q0 v d Hd' H' (g1.trans g) pe' f r
      exact (b E').ok (p := none) (χ := χ1) (tw E') σ Hd H1 0 s1.np sa1 True.intro (by rw [hb E']; decide) xs Q' fun v d Hd' H' g _ f r => hQ' v d Hd' H' g f r⟩
theorem w_lam {S : ToldS K} {ip : Nat} {P : Addr} {q : Str} {b : ∀ E' : XK, WE K E'} {hP : ∃ z ∈ Tbl.T, z.1 = P} {hb : ∀ E', (b E').m = 0} {χ : Xq} {Γ : List Sk} {φ : D → Prop} :
    (WE.lam (E := E) S ip P q b hP hb).w χ Γ φ = (Γ[ip]? = some .pen ∧ S.w (fun χ1 φ1 => ∀ E', (b E').w χ1 (Γ.map Sk.np) φ1) φ) := rfl
/-! ### shapes of such defs -/
theorem sr_told {p : Pn} {Hd H : Hp} {N : List Str} {f : Addr} (hN : 0 < N.length) : SR K p Hd H (L2.start N [.ref f]) (List.replicate N.length .un) := by
  have hl : (L2.start N [V.ref f]).length = N.length := by
    unfold L2.start
    cases hn : N.length with
    | zero => omega
    | succ n => show (some (V.ref f) :: List.replicate (n + 1 - 1) none).length = _; simp
  refine ⟨by rw [hl, List.length_replicate], fun i o k h1 h2 => ?_, fun i j k1 k2 l ne h1 o1 => ?_⟩
  · rw [List.getElem?_replicate] at h2
    split at h2 <;> cases h2
    exact True.intro
  · rw [List.getElem?_replicate] at h1
    split at h1 <;> cases h1
    cases o1
theorem ok_told {p : Pn} {Hd H : Hp} {n : Nat} {N : List Str} {f : Addr} (hN : 0 < N.length) (sa : Same Hd H) (pe : PenO p n Hd H) : Ok ⟨K, p, L2.E0, fun _ _ => False⟩ Hd Hd H (L2.start N [.ref f]) (List.replicate N.length .un) Hd H n :=
  ⟨Same.refl _, sa, .refl sa, sr_told hN, pe, fun i k l h1 h2 _ => by
    rw [List.getElem?_replicate] at h1
    split at h1 <;> cases h1
    cases h2⟩
theorem start0 {N : List Str} {f : Addr} : (L2.start N [V.ref f])[0]? = some (some (.ref f)) := rfl
def WhA (j : Nat) (φ : D → Prop) : Wh := { N := fun G => ∃ d, G[j]? = some (.dat d) ∧ φ d, R := φ, B := fun _ => False, C := fun _ => False }
/-- found = None; try: call() except ..; return found -/
def ToldS.A (N : List Str) (j : Nat) (cl : List (Cl K L2.E0)) (m : Nat) (hm : ∀ q ∈ cl, ∀ a c d, (q.s a c d).m ≤ m) (hN : 0 < N.length ∧ 0 < j) : ToldS K where
  N := N
  T := fun f c' q tl => tSeq (tAsg (tC .non) (gName j)) (tSeq (fun En σ H => tDrop (tThk f c' q tl (wSome K (fun cls d _ H => L2.E0 cls d H) En (clT cl))) En σ H) (tRet (tVar j)))
  m := m
  w := fun tw φ => tw (fun C fs => ChW K (fun _ _ => False) ((List.replicate N.length .un).set j (.dat .non)) (WhA j φ) cl C fs) fun _ => φ .non ∧ j < N.length
  ok := fun {p n Hd H f c' q tl Q φ tw} sa pe l hco ht hw hQ => by
    have o1 := (ok_told (K := K) (f := f) hN.1 sa pe).set (i := j) (v := .non) (d := .non) .non
    have s0 : ((L2.start N [V.ref f]).set j (some .non))[0]? = some (some (.ref f)) := by
      rw [List.getElem?_set_ne (Nat.ne_of_gt hN.2)]; exact start0
    have x0 : Xs ⟨K, p, L2.E0, fun _ _ => False⟩ Hd H := fun _ _ _ _ _ _ z => z.elim
    have fin : ∀ Γ' σ' Hd' H', (WhA j φ).N Γ' → Ok ⟨K, p, L2.E0, fun _ _ => False⟩ Hd Hd H σ' Γ' Hd' H' (n + m) → tRet (tVar j) { nx := fun _ H' => Q .non H', rt := Q } σ' H' := fun Γ' σ' Hd' H' ⟨d, g1, g2⟩ o => by
      obtain ⟨v, e1, r⟩ := o.sr.dat g1
      exact ⟨v, e1, hQ v d Hd' H' o.g o.pe g2 r⟩
    refine ⟨s0, hco, ht _ _ hw _ (fun C dx fs Hd' H' g hχ xa => ?_) _ fun v d Hd' H' g f1 r => ?_⟩
    · exact chain_ok (p := p) (χ := fun _ _ => False) (Hb := Hd) (Hd0 := Hd) (H0 := H) (n := n) (o1.grow g.up (pe.grow g)) l x0 fin (fun _ _ _ _ z => (show False from z).elim) (fun _ _ _ _ z => (show False from z).elim) (fun v d Hd' H' f g pe r => hQ v d Hd' H' g pe f r) xa hm hχ
    · have o2 := (o1.grow g.up (pe.grow g)).more (Nat.le_add_right n m)
      exact fin _ _ _ _ ⟨.non, by rw [List.getElem?_set_self (by rw [List.length_replicate]; exact f1.2)], f1.1⟩ o2
theorem w_toldA {N : List Str} {j : Nat} {cl : List (Cl K L2.E0)} {m : Nat} {hm : ∀ q ∈ cl, ∀ a c d, (q.s a c d).m ≤ m} {hN : 0 < N.length ∧ 0 < j} {tw : Xq → (D → Prop) → Prop} {φ : D → Prop} :
    (ToldS.A N j cl m hm hN).w tw φ = tw (fun C fs => ChW K (fun _ _ => False) ((List.replicate N.length .un).set j (.dat .non)) (WhA j φ) cl C fs) fun _ => φ .non ∧ j < N.length := rfl
end
end DL
set_option maxRecDepth 100000
set_option maxHeartbeats 4000000
/-! DLnE: the end of a law whose defs make lambdas. -/
namespace DL
open PySem PySem.Spec PyProof.Rows L2 LamX
variable [Tbl]
def emptyT : Obj := { cls := .none, data := .fields #[] }
section
variable {P : Program} {w : World} {K : PySem.W.Frag} {mg mb : Str → Option Value} {k : Nat} {fa a : Addr} {cs : List (Addr × Addr)} {fd : FuncData} {x : Str} {sp : Sp} {s₁ : Shared} {vs : List Value} {ns : List Int}
/-- what is tracked at the start: the tables, the script's list -/
structure Begins (K : PySem.W.Frag) (H : Hp) (a : Addr) (ns : List Int) (cs : List (Addr × Addr)) (l : Obj) : Prop where
  tb : ∀ p ∈ cs, H p.2 = some (.tbl #[])
  only : ∀ b u, H b = some u → (b ∈ cs.map (·.2) ∧ u = .tbl #[]) ∨ (b = a ∧ u = .frz l (.lst (ns.map V.int)) ∧ K.lookup a = none)
theorem law_coreTG {H : Hp} (KX : K.In s₁.heap) (hns : s₁.heap.Ns mainGlobals mg) (hb : s₁.heap.Ns builtinsNs mb) (hbb : ∀ x : Str, x ≠ "__name__" → mb x = bootBuiltins x) (hlim : s₁.heap.NoLimit) (hg : s₁.gens = #[])
    (hT : ∀ p ∈ cs, s₁.heap.get? p.2 = some emptyT) (nT : ∀ p ∈ cs, K.lookup p.2 = none) (C : ∀ p ∈ cs, PySem.W.CodeHd s₁.heap p.1 p.2)
    (hbm : ∃ (bm : Addr) (ob : Obj), mg "__builtins__" = some (.ref bm) ∧ bm ≠ builtinsNs ∧ s₁.heap.get? bm = some ob ∧ ob.cls = .type "module" ∧ ob.dict = some builtinsNs ∧ ob.data = .plain)
    (ha : s₁.heap.get? a = some { cls := .type "list", data := .seq vs.toArray }) (hr : Room k callerA)
    (F : ∀ base : Heap, K.In base → base.Ns mainGlobals mg → (∀ p ∈ cs, TabB base mg p.1 p.2) → FnG P w K mg base CX0 k fa fd [x] sp) (hbind : ∀ (s : Shared) (u : Value), BindsTo s fd ⟨[u], []⟩ [(x, u)])
    (st : Begins K H a ns cs { cls := .type "list", data := .seq vs.toArray }) (hok : HOk P w H s₁.heap) (hS : sp [.ref a] H (fun v _ => v = .bl true) fun _ _ _ => False) :
    codeAny (model P w) callerA (.call (.ref fa) ⟨[.ref a], []⟩) (fun r s' => r = .ok (.ret (.bool true)) ∧ OldK s₁.heap s'.heap ∧ s'.os = s₁.os ∧ AllBare s'.gens) s₁ := by
  have tabs : ∀ b ∈ cs.map (·.2), s₁.heap.get? b = some emptyT := fun b hb' => by
    obtain ⟨p, hp, rfl⟩ := List.mem_map.mp hb'
    exact hT p hp
  -- what is neither a list nor a table lies open
  have open_ : ∀ {b : Addr} {o : Obj}, s₁.heap.get? b = some o → (∀ xs n, o.data ≠ .seq xs n) → o.data ≠ .fields #[] → (hidT s₁.heap H).get? b = some o := fun {b o} e n1 n2 => by
    refine hidT_get e ?_
    cases q : H b with
    | none => rfl
    | some u =>
      rcases st.only b u q with ⟨m, _⟩ | ⟨m, _⟩
      · rw [tabs b m] at e; cases e; exact absurd rfl n2
      · rw [m, ha] at e; cases e; exact absurd rfl (n1 _ _)
  have names : ∀ {b : Addr} {mm : Str → Option Value}, s₁.heap.Ns b mm → (hidT s₁.heap H).Ns b mm := fun {b mm} ⟨ob, es, ep, z1, z2, z3⟩ =>
    ⟨ob, es, ep, open_ z1 (fun _ _ y => by rw [z2] at y; cases y) (fun y => by rw [z2] at y; cases y), z2, z3⟩
  have kin : K.In (hidT s₁.heap H) := fun b ob z => by
    refine hidT_get (KX b ob z) ?_
    cases q : H b with
    | none => rfl
    | some u =>
      rcases st.only b u q with ⟨m, _⟩ | ⟨m, _, m2⟩
      · obtain ⟨p, hp, e⟩ := List.mem_map.mp m
        rw [← e, nT p hp] at z; cases z
      · rw [m, m2] at z; cases z
  have tb : ∀ p ∈ cs, TabB (hidT s₁.heap H) mg p.1 p.2 := fun p hp => by
    have at_ := hT p hp
    refine ⟨?_, ?_, fun z => ?_⟩
    · obtain ⟨o, us, file, tf, flags, tg, inF, text, tt, e1, r1, r2, r3, r⟩ := C p hp
      refine ⟨o, us, file, tf, flags, tg, inF, text, tt, open_ e1 (fun _ _ y => by rw [r2] at y; cases y) (fun y => ?_), r1, r2, r3, r⟩
      rw [r2] at y; cases y; simp at r3
    · obtain ⟨bm, ob, b1, b2, b3, b4, b5, b6⟩ := hbm
      refine ⟨bm, ob, b1, b2, fun q => ?_, fun q => ?_, open_ b3 (fun _ _ y => by rw [b6] at y; cases y) (fun y => by rw [b6] at y; cases y), b4, b5, b6⟩
      · obtain ⟨o, es, ep, e, hd, _⟩ := hns
        rw [q, e] at b3; cases b3
        rw [hd] at b6; cases b6
      · rw [q, at_] at b3; cases b3; cases b6
    · obtain ⟨o, es, ep, e, hd, _⟩ := hns
      rw [z, at_] at e; cases e; cases hd
  obtain ⟨mc, l1, l2⟩ := hlim
  have env : Env0 P w K mg (hidT s₁.heap H) callerA [] s₁ H := ⟨rfl, ⟨kin, names hns, ⟨mb, names hb, hbb⟩, mc, names l1, l2⟩, fun b ob z => of_hidT z, Nat.le_of_eq (hidT_size _ _), trivial, fun b z => (List.not_mem_nil z).elim, hok, .of_eq hg⟩
  refine codeAny_mono ((F _ kin (names hns) tb).run callerA hr rfl [] s₁ H ⟨[.ref a], []⟩ [.ref a] [.ref a] _ _ env (hbind s₁ (.ref a)) (.cons rfl .nil) hS) fun res s' got => ?_
  cases res with
  | error er => exact got.elim
  | ok flow => cases flow with
    | next => exact got.elim
    | brk => exact got.elim
    | cont => exact got.elim
    | ret u =>
      obtain ⟨v, H2, hos, hbare, un, hok2, rv, isT⟩ := got
      obtain rfl : v = .bl true := isT
      cases rv
      have grown : ∀ p ∈ cs, ∃ more : Array Value, s'.heap.get? p.2 = some { cls := .none, data := .fields more } := fun p hp => by
        obtain ⟨more, z⟩ := un.tbls p.2 #[] (st.tb p hp)
        exact ⟨_, hok2 p.2 _ z⟩
      have rest : ∀ b o, b ∉ cs.map (·.2) → s₁.heap.get? b = some o → s'.heap.get? b = some o := fun b o nb e => by
        cases q : H b with
        | none => exact un.keep b o e q (fun y => (List.not_mem_nil y).elim) fun y => (List.not_mem_nil y).elim
        | some u =>
          rcases st.only b u q with ⟨m, _⟩ | ⟨_, rfl, _⟩
          · exact absurd m nb
          · obtain ⟨z1, _⟩ := hok b _ q
            obtain ⟨z2, _⟩ := hok2 b _ (un.frzs b _ _ q)
            rw [e] at z1; cases z1
            exact z2
      refine ⟨rfl, ⟨fun b o e => ?_, fun b o e => ?_⟩, hos, hbare⟩
      · by_cases m : b ∈ cs.map (·.2)
        · obtain ⟨p, hp, rfl⟩ := List.mem_map.mp m
          obtain ⟨more, hm⟩ := grown p hp
          have e' := e
          rw [hT p hp] at e'; cases e'
          exact .inr (.inl ⟨((C p hp).tab (hT p hp)).isCodeTable, rfl, #[], more, rfl, by rw [Array.empty_append]; exact hm⟩)
        · exact .inl (rest b o m e)
      · by_cases m : b ∈ cs.map (·.2)
        · obtain ⟨p, hp, rfl⟩ := List.mem_map.mp m
          obtain ⟨more, hm⟩ := grown p hp
          exact ⟨_, hm⟩
        · exact ⟨o, rest b o m e⟩
theorem law_callTG (KX : K.In s₁.heap) (hns : s₁.heap.Ns mainGlobals mg) (hb : s₁.heap.Ns builtinsNs mb) (hbb : ∀ x : Str, x ≠ "__name__" → mb x = bootBuiltins x) (hlim : s₁.heap.NoLimit) (hg : s₁.gens = #[])
    (hT : ∀ p ∈ cs, s₁.heap.get? p.2 = some emptyT) (nT : ∀ p ∈ cs, K.lookup p.2 = none) (C : ∀ p ∈ cs, PySem.W.CodeHd s₁.heap p.1 p.2)
    (hbm : ∃ (bm : Addr) (ob : Obj), mg "__builtins__" = some (.ref bm) ∧ bm ≠ builtinsNs ∧ s₁.heap.get? bm = some ob ∧ ob.cls = .type "module" ∧ ob.dict = some builtinsNs ∧ ob.data = .plain)
    (ha : s₁.heap.get? a = some { cls := .type "list", data := .seq vs.toArray }) (hi : IntsAre vs ns) (hl : ns.length ≤ sizeLine) (hr : Room k callerA)
    (F : ∀ base : Heap, K.In base → base.Ns mainGlobals mg → (∀ p ∈ cs, TabB base mg p.1 p.2) → FnG P w K mg base CX0 k fa fd [x] sp) (hbind : ∀ (s : Shared) (u : Value), BindsTo s fd ⟨[u], []⟩ [(x, u)])
    (hsp : ∀ H : Hp, (∀ p ∈ cs, H p.2 = some (.tbl #[])) → SqL K H a (ns.map V.int) → sp [.ref a] H (fun v _ => v = .bl true) fun _ _ _ => False) :
    codeAny (model P w) callerA (.call (.ref fa) ⟨[.ref a], []⟩) (fun r s' => r = .ok (.ret (.bool true)) ∧ OldK s₁.heap s'.heap ∧ s'.os = s₁.os ∧ AllBare s'.gens) s₁ := by
  have rel := vals_ints hi
  have cnt := hi.length
  have na : a ∉ cs.map (·.2) := fun z => by
    obtain ⟨p, hp, e⟩ := List.mem_map.mp z
    have := hT p hp
    rw [e, ha] at this
    have y : Data.seq vs.toArray _ = Data.fields #[] := congrArg Obj.data (Option.some.inj this)
    cases y
  have isT : ∀ b ∈ cs.map (·.2), s₁.heap.get? b = some emptyT := fun b hb' => by
    obtain ⟨p, hp, rfl⟩ := List.mem_map.mp hb'
    exact hT p hp
  let lo : HO := .frz { cls := .type "list", data := .seq vs.toArray } (.lst (ns.map V.int))
  let Hs : Hp := fun b => if b ∈ cs.map (·.2) then some (.tbl #[]) else if b = a ∧ (K.lookup a).isNone = true then some lo else none
  have inT : ∀ b, b ∈ cs.map (·.2) → Hs b = some (.tbl #[]) := fun b z => if_pos z
  have offT : ∀ b, b ∉ cs.map (·.2) → Hs b = if b = a ∧ (K.lookup a).isNone = true then some lo else none := fun b z => if_neg z
  have tb : ∀ p ∈ cs, Hs p.2 = some (.tbl #[]) := fun p hp => inT _ (List.mem_map.mpr ⟨p, hp, rfl⟩)
  have only : ∀ b u, Hs b = some u → (b ∈ cs.map (·.2) ∧ u = .tbl #[]) ∨ (b = a ∧ u = lo ∧ K.lookup a = none) := fun b u z => by
    by_cases m : b ∈ cs.map (·.2)
    · rw [inT b m] at z; cases z; exact .inl ⟨m, rfl⟩
    · rw [offT b m] at z
      by_cases c : b = a ∧ (K.lookup a).isNone = true
      · rw [if_pos c] at z; cases z
        exact .inr ⟨c.1, rfl, by simpa using c.2⟩
      · rw [if_neg c] at z; cases z
  have sq : SqL K Hs a (ns.map V.int) := by
    cases look : K.lookup a with
    | some ob =>
      have same := (KX a ob look).symm.trans ha
      cases same
      exact .inr ⟨_, vs.toArray, _, look, rfl, rfl, rfl, by rw [List.size_toArray, cnt]; exact hl, by simpa using rel⟩
    | none =>
      have e : Hs a = some lo := (offT a na).trans (if_pos ⟨rfl, by rw [look]; rfl⟩)
      exact .inl (.inr ⟨_, e⟩)
  refine law_coreTG (H := Hs) (ns := ns) KX hns hb hbb hlim hg hT nT C hbm ha hr F hbind ⟨tb, only⟩ (fun b u z => ?_) (hsp Hs tb sq)
  rcases only b u z with ⟨m, rfl⟩ | ⟨rfl, rfl, _⟩
  · exact isT b m
  · exact ⟨ha, by rw [List.length_map]; exact hl, vs, _, rel, ha⟩
end
theorem walk_ofTG {l : PySem.W.OpenLaw} {n k : Nat} {q : Program} {loose : List Str} {XP : (Str → Option Value) → Heap → Prop} {YP : World → Heap → Prop} {d : DefRec} {K : Params → PySem.W.Frag} {sp : PySem.W.Frag → Sp} {x : Str} (cs : List (Addr × Addr)) (hn : l.most = some n) (hn2 : n ≤ sizeLine) (hdf : d.params.defaults = []) (hr : Room k callerA)
    (hY : ∀ (w : World) (h : Heap), YP w h → (K w.params).In h) (hT : ∀ (w : World) (h : Heap), YP w h → ∀ p ∈ cs, h.get? p.2 = some emptyT)
    (F : ∀ (w : World) (mg : Str → Option Value) (fa : Addr) (h : Heap), (K w.params).In h → h.Ns mainGlobals mg → mg d.name = some (.ref fa) → (∀ p ∈ cs, (K w.params).lookup p.2 = none) ∧ (∀ p ∈ cs, PySem.W.CodeHd h p.1 p.2) ∧
        ∃ fd : FuncData, (∀ (s : Shared) (u : Value), BindsTo s fd ⟨[u], []⟩ [(x, u)]) ∧
        ∀ base : Heap, (K w.params).In base → base.Ns mainGlobals mg → (∀ p ∈ cs, TabB base mg p.1 p.2) → FnG l.prog w (K w.params) mg base CX0 k fa fd [x] (sp (K w.params)))
    (hsp : ∀ (K : PySem.W.Frag) (H : Hp) (a : Addr) (ns : List Int), ns.length ≤ n → (∀ p ∈ cs, H p.2 = some (.tbl #[])) → SqL K H a (ns.map V.int) → sp K [.ref a] H (fun v _ => v = .bl true) fun _ _ _ => False) :
    PySem.W.WalkO q loose XP YP l.row.toRowW d [] (fun f vs => PySem.call f vs) := by
  refine Att.attach_callB hn hdf fun w s₀ s₁ mg mb fa o pm cd doc a vs ns G Y ho hd hcd hmg hobj hints hlen hbits hg => ?_
  have inK := hY w _ Y
  obtain ⟨nT, C, fd, hb, hF⟩ := F w mg fa _ inK G.T.g hmg
  exact law_callTG inK G.T.g G.T.b G.T.builtins G.T.nolimit hg (hT w _ Y) nT C G.T.bmain hobj hints (Nat.le_trans hlen hn2) hr hF hb fun H h1 h2 => hsp _ H a ns hlen h1 h2
/-! ### a def whose code object is known -/
structure FunC (K : PySem.W.Frag) (x qual : Str) (st : Stmt) (f : Addr) (fd : FuncData) (cdv : Value) : Prop where
  ex : ∃ (oc : Value) (od : Option Addr) (dV kV doc pm : Value) (an : Option Addr) (ct : Value) (osl : Array (Option Value)),
    fd = PySem.W.fnOf x qual (defArgs st) (defBody st) (defScope st) dV kV doc pm an cdv ct ∧ K.lookup f = some ⟨oc, od, .func fd, osl⟩ ∧ PySem.W.codeIn K cdv qual = true
section
variable {P : Program} {w : World} {K : PySem.W.Frag} {mg : Str → Option Value} {base : Heap} {k : Nat} {f : Addr} {fd : FuncData} {ps N : List Str} {sp : Sp} {x qual : Str} {st : Stmt} {cdv : Value}
theorem fng_code (F : FunC K x qual st f fd cdv) (S : FnScope N ps (defScope st)) (len : ∀ vs H Q E, sp vs H Q E → vs.length = ps.length)
    (hbody : ∀ (A : Around) (outer : List Env) (s : Shared) (H : Hp) (vs : List V) (Q : VK) (E : XK), Room k (A.deeper (envOfC qual (defScope st) s.heap.objs.size f cdv)) → NoG (A.deeper (envOfC qual (defScope st) s.heap.objs.size f cdv)) → sp vs H Q E →
      ∃ t, PSs (cxOf CX0 P w K mg base N qual (defScope st) f cdv A outer s H E).nox (defBody st) t ∧ t { nx := fun _ H' => Q .non H', rt := Q } (L2.start N vs) H) : FnG P w K mg base CX0 (k + 1) f fd ps sp := by
  obtain ⟨oc, od, dV, kV, doc, pm, an, ct, osl, rfl, lk, hcd⟩ := F.ex
  refine ⟨len, fun A room ng outer s H args us vs Q E env bnd rel wish => ?_⟩
  have inK : K.In s.heap := env.mod.kin.keeps fun b o e => (env.bs b o e).1
  have noLim : s.heap.NoLimit := env.mod.nolimit.keeps fun b o e => (env.bs b o e).1
  refine codeAny_call_function room.depth (inK _ _ lk) rfl S.co S.gen rfl (PySem.W.codeRec_of inK hcd) (bnd _ _ _ _ (wpAny_newFunctionEnv_cells S.kind (fun y hy => ?_) fun env' he s1 laid => ?_))
  · rcases S.par y.1 (List.of_mem_zip hy).1 with q | q
    · exact .inl q
    · exact .inr ⟨q, PySem.W.cellsFrom_some _ _ _ (.inl q)⟩
  · subst he
    obtain ⟨t, ht, hq⟩ := hbody A outer s H vs Q E (room.deeper _) ng wish
    refine ⟨noLim.keeps laid.toInCall.keep, codeAny_func ?_⟩
    refine wpAny_mono (ht.nox.run [] s1 _ H _ (inv_start S room.hd env (len _ _ _ _ wish) rel laid) hq) (fun flow s' got => ?_) fun _ _ got => got
    cases flow with
    | ret u => obtain ⟨v, _, H', J, rv, z⟩ := got; exact ⟨v, H', J.os, J.bare, J.base, J.hok, rv, z⟩
    | next => obtain ⟨_, H', J, z⟩ := got; exact ⟨V.non, H', J.os, J.bare, J.base, J.hok, rfl, z⟩
    | brk => obtain ⟨_, _, _, z⟩ := got; exact z.elim
    | cont => obtain ⟨_, _, _, z⟩ := got; exact z.elim
theorem law_mkC {h : Heap} {fa : Addr} {oc : Value} {od an : Option Addr} {osl : Array (Option Value)} {kV doc pm ct : Value} (X : K.In h) (G : h.Ns mainGlobals mg) (hfa : mg x = some (.ref fa)) (a : PySem.W.nsIn K mainGlobals x = some (some (.ref f)))
    (l : K.lookup f = some ⟨oc, od, .func (PySem.W.fnOf x x (defArgs st) (defBody st) (defScope st) .none kV doc pm an cdv ct), osl⟩) (c : PySem.W.codeIn K cdv x = true)
    (b : ∀ (kV doc pm : Value) (an : Option Addr) (ct : Value) (u : Value), bindArgs (PySem.W.fnOf x x (defArgs st) (defBody st) (defScope st) .none kV doc pm an cdv ct) ⟨[u], []⟩ = pure [(("script" : Str), u)]) :
    ∃ fd : FuncData, (∀ (s : Shared) (u : Value), BindsTo s fd ⟨[u], []⟩ [("script", u)]) ∧ FunC K x x st fa fd cdv := by
  have e := hfa.symm.trans (PySem.W.mg_of X G a)
  cases e
  exact ⟨_, fun s u => .of_eq (b kV doc pm an ct u), ⟨oc, od, .none, kV, doc, pm, an, ct, osl, rfl, l, c⟩⟩
end
def SpLawT (K : PySem.W.Frag) : Sp := fun vs H Q _ => ∃ (a : Addr) (ns : List Int), vs = [.ref a] ∧ SqL K H a (ns.map V.int) ∧ ns.length ≤ 63 ∧ LamX.Tabs Tbl.T H ∧ ∀ H', Q (.bl true) H'
end DL
set_option maxRecDepth 100000
set_option maxHeartbeats 4000000
/-! DLB: bundles: sorted(set(e)), s.join(e), xs[i] = e and xs[i] for a local list. -/
namespace DL
open PySem PyProof.Rows L2
variable [Tbl]
def tupD (k : List Key) : D := .tup (k.map keyD)
theorem reps_keys {K : PySem.W.Frag} {H : Hp} : ∀ {xs : List V} {ks : List Key}, Reps K H xs (ks.map keyD) → xs = ks.map kV
  | _, [], .nil => rfl
  | _, .inl i :: ks, .cons h r => by
    cases h
    rw [reps_keys r]; rfl
  | _, .inr x :: ks, .cons h r => by
    cases h
    rw [reps_keys r]; rfl
theorem keys_reps {K : PySem.W.Frag} {H : Hp} : ∀ ks : List Key, Reps K H (ks.map kV) (ks.map keyD)
  | [] => .nil
  | .inl i :: ks => .cons (.int i) (keys_reps ks)
  | .inr x :: ks => .cons (.str x) (keys_reps ks)
theorem reps_tups {K : PySem.W.Frag} {Hd : Hp} : ∀ {xs : List V} {kss : List (List Key)}, Reps K Hd xs (kss.map tupD) → ∃ es : List Ent, xs = es.map (fun q => V.ref q.1) ∧ es.map (·.2) = kss ∧ ∀ q ∈ es, SqT K Hd q.1 (q.2.map kV)
  | _, [], .nil => ⟨[], rfl, rfl, fun q h => nomatch h⟩
  | _, k :: kss, .cons h r => by
    obtain ⟨es, e1, e2, e3⟩ := reps_tups r
    cases h with
    | tup h1 h2 =>
      rename_i a ys
      have e := reps_keys h2
      subst e
      refine ⟨(a, k) :: es, by rw [e1]; rfl, by rw [List.map_cons, e2], fun q hq => ?_⟩
      rcases List.mem_cons.mp hq with z | z
      · rw [z]; exact h1
      · exact e3 q z
theorem tups_reps {K : PySem.W.Frag} {Hd : Hp} : ∀ {es : List Ent}, (∀ q ∈ es, SqT K Hd q.1 (q.2.map kV)) → Reps K Hd (es.map fun q => V.ref q.1) ((es.map (·.2)).map tupD)
  | [], _ => .nil
  | q :: es, h => .cons (.tup (h q List.mem_cons_self) (keys_reps q.2)) (tups_reps fun r hr => h r (List.mem_cons_of_mem _ hr))
/-- what sorted(set(ds)) asks and gives -/
def SetW (ds : List D) (φ : D → Prop) : Prop :=
  (∃ ks : List Key, ds = ks.map keyD ∧ ks.length < 4000 ∧ (∃ b, ∀ k ∈ ks, k.isRight = b) ∧ φ (.lst ((ascK ks).map keyD))) ∨
  (∃ kss : List (List Key), ds = kss.map tupD ∧ kss.length < 64 ∧ (∃ b, ∀ k ∈ kss, ∃ i r, k = i :: r ∧ i.isRight = b) ∧ (∀ k ∈ kss, ∀ j ∈ kss, homo k j) ∧ φ (.lst ((ascT kss).map tupD)))
section
variable {K : PySem.W.Frag} {E : XK}
def WE.sset (a : WE K E) : WE K E := ⟨tSSet K a.t, a.m, fun χ Γ φ => a.w χ Γ fun d => ∃ ds, d.its = some ds ∧ SetW ds φ, fun {p χ Γ φ} h σ Hd H n s sa pe l x Q q =>
  a.ok h σ Hd H n s sa pe l x _ fun v d Hd1 H1 g1 pe1 ⟨ds, e, f⟩ r => by
    obtain ⟨l, xs, rfl, hs, rs⟩ : ∃ l xs, v = .ref l ∧ (SqL K H1 l xs ∨ SqT K H1 l xs) ∧ Reps K Hd1 xs ds := by
      cases r with
      | lst h1 h2 => cases e; exact ⟨_, _, rfl, .inl (SqL.of (g1.s _ _ h1)), h2⟩
      | tup h1 h2 => cases e; exact ⟨_, _, rfl, .inr (same_sqt g1.s h1), h2⟩
      | _ => cases e
    rcases f with ⟨ks, rfl, f1, ⟨b, f2⟩, f3⟩ | ⟨kss, rfl, f1, ⟨b, f2⟩, f3, f4⟩
    · have ex := reps_keys rs
      subst ex
      refine .inl ⟨l, ks, b, rfl, hs, by unfold scanBound; omega, f2, fun p hp => ?_⟩
      have g := Grow.new (p := none) (o := HO.lst ((ascK ks).map kV)) g1.s hp
      exact q _ _ _ _ (g1.trans g.up) (pe1.grow g) f3 (.lst upd_same (keys_reps _))
    · obtain ⟨es, rfl, rfl, hk⟩ := reps_tups rs
      refine .inr ⟨l, es, b, rfl, hs, fun q hq => same_sqt g1.s (hk q hq), by rw [List.length_map] at f1; exact f1, fun q hq => f2 q.2 (List.mem_map.mpr ⟨q, hq, rfl⟩), fun q hq r hr => f3 _ (List.mem_map.mpr ⟨q, hq, rfl⟩) _ (List.mem_map.mpr ⟨r, hr, rfl⟩), fun ys y1 y2 y3 p hp => ?_⟩
      have g := Grow.new (p := none) (o := HO.lst (ys.map fun q => V.ref q.1)) g1.s hp
      have e : ys.map (·.2) = ascT (es.map (·.2)) := ascT_eq (fun k => ⟨fun hk' => by
          obtain ⟨q, hq, rfl⟩ := List.mem_map.mp hk'
          exact List.mem_map.mpr ⟨q, y1 q hq, rfl⟩, fun hk' => by
          obtain ⟨q, hq, rfl⟩ := List.mem_map.mp hk'
          exact y2 q hq⟩) (List.pairwise_map.mpr y3)
      rw [← e] at f4
      exact q _ _ _ _ (g1.trans g.up) (pe1.grow g) f4 (.lst upd_same ((tups_reps fun r hr => hk r (y1 r hr)).mono g.d))⟩
theorem w_sset {a : WE K E} {χ : Xq} {Γ : List Sk} {φ : D → Prop} : (WE.sset a).w χ Γ φ = a.w χ Γ fun d => ∃ ds, d.its = some ds ∧ SetW ds φ := rfl
/-! ### s.join(e) -/
def rJoin (K : PySem.W.Frag) : V → List V → Hp → VK → Prop := fun x xs H Q => ∃ a p, ∃ ys : List Str, x = .str a ∧ xs = [.ref p] ∧ (SqL K H p (ys.map V.str) ∨ SqT K H p (ys.map V.str)) ∧
      (ys.map (·.length)).sum + ys.length * a.length ≤ 16777216 ∧ Q (.str (Txt.join a ys)) H
def WE.join (a b : WE K E) : WE K E := ⟨tM1 (rJoin K) a.t b.t, a.m + b.m, fun χ Γ φ => a.w χ Γ fun x => ∃ z, x = .str z ∧ b.w χ Γ fun d => ∃ ds, d.its = some ds ∧ ∃ ys : List Str, ds = ys.map D.str ∧ (ys.map (·.length)).sum + ys.length * z.length ≤ 16777216 ∧ φ (.str (Txt.join z ys)), fun {p χ Γ φ} h σ Hd H n s sa pe l x Q q => by
  refine a.ok h σ Hd H n s sa pe (by omega) x _ fun v d Hd1 H1 g1 pe1 ⟨z, e, f1⟩ r1 => ?_
  subst e
  cases r1
  refine ⟨⟨z, rfl⟩, b.ok f1 σ Hd1 H1 _ (s.grow g1) g1.s pe1 (by omega) (x.grow g1) _ fun w e Hd2 H2 g2 pe2 ⟨ds, e1, ys, e2, f3, f4⟩ r2 => ?_⟩
  subst e2
  obtain ⟨l, xs, rfl, hs, rs⟩ : ∃ l xs, w = .ref l ∧ (SqL K H2 l xs ∨ SqT K H2 l xs) ∧ Reps K Hd2 xs (ys.map D.str) := by
    cases r2 with
    | lst h1 h2 => cases e1; exact ⟨_, _, rfl, .inl (SqL.of (g2.s _ _ h1)), h2⟩
    | tup h1 h2 => cases e1; exact ⟨_, _, rfl, .inr (same_sqt g2.s h1), h2⟩
    | _ => cases e1
  have e := rs.of_strs
  subst e
  exact ⟨z, l, ys, rfl, rfl, hs, f3, q _ _ Hd2 H2 (g1.trans g2) (by rw [← Nat.add_assoc]; exact pe2) f4 (.str _)⟩⟩
theorem w_join {a b : WE K E} {χ : Xq} {Γ : List Sk} {φ : D → Prop} : (WE.join a b).w χ Γ φ = a.w χ Γ fun x => ∃ z, x = .str z ∧ b.w χ Γ fun d => ∃ ds, d.its = some ds ∧ ∃ ys : List Str, ds = ys.map D.str ∧ (ys.map (·.length)).sum + ys.length * z.length ≤ 16777216 ∧ φ (.str (Txt.join z ys)) := rfl
/-! ### a local list: xs[i], xs[i] = e -/
def OwnAtI (Γ : List Sk) (i : Nat) (f : List D → Prop) : Prop := match Γ[i]? with
  | some (.own ds) => f ds
  | _ => False
theorem OwnAtI.get {Γ : List Sk} {i : Nat} {f : List D → Prop} (h : OwnAtI Γ i f) : ∃ ds, Γ[i]? = some (.own ds) ∧ f ds := by
  unfold OwnAtI at h
  split at h
  · rename_i ds e; exact ⟨ds, e, h⟩
  · exact h.elim
def WE.ixO (i : Nat) (b : WE K E) : WE K E := ⟨tOp (rIx K) (tVar i) b.t, b.m, fun χ Γ φ => OwnAtI Γ i fun ds => b.w χ Γ fun y => ∃ j, y = .int j ∧ ∃ d, L2.atI ds j = some d ∧ φ d, fun {p χ Γ φ} h σ Hd H n s sa pe l x Q q => by
  obtain ⟨ds, e, f⟩ := h.get
  obtain ⟨_, hs, a, vs, rfl, _⟩ := s.get e
  refine ⟨_, hs, b.ok f σ Hd H n s sa pe l x _ fun v d Hd1 H1 g1 pe1 ⟨j, e1, y, e2, f2⟩ r => ?_⟩
  subst e1
  cases r
  obtain ⟨_, hs2, a2, ws, e3, h1, _, h3, _⟩ := (s.grow g1).get e
  rw [hs] at hs2
  cases hs2
  cases e3
  obtain ⟨w, e4, r4⟩ := h3.atI e2
  exact .inl ⟨a, ws, j, w, rfl, rfl, SqL.of h1, e4, q w y Hd1 H1 g1 pe1 f2 r4⟩⟩
theorem w_ixO {i : Nat} {b : WE K E} {χ : Xq} {Γ : List Sk} {φ : D → Prop} : (WE.ixO i b).w χ Γ φ = OwnAtI Γ i fun ds => b.w χ Γ fun y => ∃ j, y = .int j ∧ ∃ d, L2.atI ds j = some d ∧ φ d := rfl
theorem reps_set {Hd : Hp} : ∀ {vs : List V} {ds : List D} (k : Nat) {v : V} {d : D}, Reps K Hd vs ds → Rep K Hd v d → Reps K Hd (vs.set k v) (ds.set k d)
  | _, _, _, _, _, .nil, _ => .nil
  | _, _, 0, _, _, .cons h r, z => .cons z r
  | _, _, k + 1, _, _, .cons h r, z => .cons h (reps_set k r z)
def WS.setAt (i : Nat) (a b : WE K E) : WS K E := ⟨tAsg b.t (gSub (tVar i) a.t rSetL), b.m + a.m, fun χ Γ W => OwnAtI Γ i fun ds => b.w χ Γ fun d => a.w χ Γ fun y => ∃ k : Nat, y = .int (k : Int) ∧ k < ds.length ∧ W.N (Γ.set i (.own (ds.set k d))), fun {p χ Γ W} h Hb Hd0 H0 σ Hd H n o l x En k1 k2 k3 k4 => by
  obtain ⟨ds, e, f⟩ := h.get
  obtain ⟨_, hs, a0, vs, rfl, _⟩ := o.sr.get e
  refine b.ok f σ Hd H n o.sr o.g.s o.pe (by omega) (x.grow o.g) _ fun v d Hd1 H1 g1 pe1 f1 r1 => ?_
  have o1 := o.grow g1 pe1
  refine ⟨_, hs, a.ok f1 σ Hd1 H1 _ o1.sr o1.g.s o1.pe (by omega) (x.grow o1.g) _ fun w y Hd2 H2 g2 pe2 ⟨k, e1, lk, f2⟩ r2 => ?_⟩
  subst e1
  cases r2
  have o2 := o1.grow g2 pe2
  obtain ⟨_, hs2, a2, ws, e3, h1, _, h3, _⟩ := o2.sr.get e
  rw [hs] at hs2
  cases hs2
  cases e3
  refine ⟨_, ws, (k : Int), k, rfl, rfl, h1, ?_, ?_⟩
  · unfold L2.ixN
    rw [if_pos (Int.natCast_nonneg k), if_pos (by rw [h3.length]; exact Int.ofNat_lt.mpr lk)]; rfl
  · exact k1 _ _ _ _ f2 ((o2.writeOwn e hs (reps_set k h3 (r1.mono g2.d))).more (by omega))⟩
theorem w_setAt {i : Nat} {a b : WE K E} {χ : Xq} {Γ : List Sk} {W : Wh} : (WS.setAt i a b).w χ Γ W = OwnAtI Γ i fun ds => b.w χ Γ fun d => a.w χ Γ fun y => ∃ k : Nat, y = .int (k : Int) ∧ k < ds.length ∧ W.N (Γ.set i (.own (ds.set k d))) := rfl
theorem ownI_0 {k : Sk} {Γ : List Sk} {f : List D → Prop} : OwnAtI (k :: Γ) 0 f = match k with
  | .own ds => f ds
  | _ => False := by cases k <;> rfl
theorem ownI_s {k : Sk} {Γ : List Sk} {i : Nat} {f : List D → Prop} : OwnAtI (k :: Γ) (i + 1) f = OwnAtI Γ i f := rfl
theorem own_atI {Γ : List Sk} {i : Nat} {ds : List D} {f : List D → Prop} (h : Γ[i]? = some (.own ds)) : OwnAtI Γ i f = f ds := by
  unfold OwnAtI; rw [h]
/-! ### new lists that become a local name's own -/
structure WF (K : PySem.W.Frag) (E : XK) where
  t : TE
  m : Nat
  w : Xq → List Sk → (List D → Prop) → Prop
  ok : ∀ {p : Pn} {χ : Xq} {Γ : List Sk} {φ : List D → Prop}, w χ Γ φ → EvF ⟨K, p, E, χ⟩ t Γ m φ
def WF.lc (wi : WI K E) (g : WG K) (tt : WT K E) (te : WE K E) (L : Nat) (hz : L < 1000000 := by decide) : WF K E :=
  ⟨tLc wi.t g.t tt.t te.t g.is, wi.m + L * (tt.m + te.m), fun χ Γ φ => wi.w χ Γ fun ds => LcP g tt te χ Γ L ds fun d => ∃ es, d = .lst es ∧ φ es, fun {p χ Γ φ} h => ev_lcF wi g tt te hz h⟩
/-- list(e) -/
def WF.list (a : WE K E) : WF K E := ⟨(WE.cb (E := E) ON.list (WA.cons a WA.nil)).t, a.m, fun χ Γ φ => a.w χ Γ fun x => ∃ ds, x.its = some ds ∧ φ ds, fun {p χ Γ φ} h σ Hd H n s sa pe l x Q q => by
  refine a.ok h σ Hd H n s sa pe l x _ fun v d Hd1 H1 g1 pe1 ⟨ds, e, f⟩ r => ?_
  have fin : ∀ (ys : List V) (l : Addr), Reps K Hd1 ys ds → H1 l = none → Q (.ref l) (upd H1 l (.lst ys)) := fun ys l r hl => by
    have ne := Pn.ne_of pe1 hl
    have g2 := Grow.loc (p := p.a) (o := HO.lst ys) g1.s hl
    exact q l ys ds Hd1 _ (g1.trans g2) upd_same (g1.s.free hl) (g1.free hl) ne (pe1.write ne (pl_free hl)) f r
  cases r with
  | tup h1 r => cases e; exact ⟨_, _, rfl, .inr (same_sqt g1.s h1), fun l hl => fin _ l r hl⟩
  | lst h1 r => cases e; exact ⟨_, _, rfl, .inl (SqL.of (g1.s _ _ h1)), fun l hl => fin _ l r hl⟩
  | _ => cases e⟩
theorem w_wflc {wi : WI K E} {g : WG K} {tt : WT K E} {te : WE K E} {L : Nat} {hz : L < 1000000} {χ : Xq} {Γ : List Sk} {φ : List D → Prop} : (WF.lc wi g tt te L hz).w χ Γ φ = wi.w χ Γ fun ds => LcP g tt te χ Γ L ds fun d => ∃ es, d = .lst es ∧ φ es := rfl
theorem w_wflist {a : WE K E} {χ : Xq} {Γ : List Sk} {φ : List D → Prop} : (WF.list a).w χ Γ φ = a.w χ Γ fun x => ∃ ds, x.its = some ds ∧ φ ds := rfl
/-- x = a new list -/
def WS.asgF (i : Nat) (a : WF K E) : WS K E := ⟨tAsg a.t (gName i), a.m, fun χ Γ W => a.w χ Γ fun ds => W.N (Γ.set i (.own ds)), fun {p χ Γ W} h Hb Hd0 H0 σ Hd H n o l x En k1 k2 k3 k4 => by
  refine a.ok h σ Hd H n o.sr o.g.s o.pe l (x.grow o.g) _ fun a' vs ds Hd' H' g e nd fr ne pe' f r => ?_
  have o1 := o.grow g pe'
  exact k1 _ _ _ _ f (o1.adopt (i := i) (a := a') (k0 := .own ds) rfl ⟨a', vs, rfl, e, nd, r, ne⟩ (o.nu fr) (o.g.free fr))⟩
theorem w_asgF {i : Nat} {a : WF K E} {χ : Xq} {Γ : List Sk} {W : Wh} : (WS.asgF i a).w χ Γ W = a.w χ Γ fun ds => W.N (Γ.set i (.own ds)) := rfl
/-- x, y, z = e, f, g -/
def WS.par3 (i j k : Nat) (a b c : WE K E) : WS K E := ⟨tPar3 i j k (tCons a.t (tCons b.t (tCons c.t tNil))), a.m + b.m + c.m, fun χ Γ W => a.w χ Γ fun x => b.w χ Γ fun y => c.w χ Γ fun z => W.N (((Γ.set i (.dat x)).set j (.dat y)).set k (.dat z)), fun {p χ Γ W} h Hb Hd0 H0 σ Hd H n o l x En k1 k2 k3 k4 => by
  refine a.ok h σ Hd H n o.sr o.g.s o.pe (by omega) (x.grow o.g) _ fun v1 d1 Hd1 H1 g1 pe1 f1 r1 => ?_
  have o1 := o.grow g1 pe1
  refine b.ok f1 σ Hd1 H1 _ o1.sr o1.g.s o1.pe (by omega) (x.grow o1.g) _ fun v2 d2 Hd2 H2 g2 pe2 f2 r2 => ?_
  have o2 := o1.grow g2 pe2
  refine c.ok f2 σ Hd2 H2 _ o2.sr o2.g.s o2.pe (by omega) (x.grow o2.g) _ fun v3 d3 Hd3 H3 g3 pe3 f3 r3 => ?_
  have o3 := o2.grow g3 pe3
  exact ⟨_, _, _, rfl, k1 _ _ _ _ f3 ((((o3.set (r1.mono (g2.d.trans g3.d))).set (r2.mono g3.d)).set r3).more (by omega))⟩⟩
theorem w_par3 {i j k : Nat} {a b c : WE K E} {χ : Xq} {Γ : List Sk} {W : Wh} : (WS.par3 i j k a b c).w χ Γ W = a.w χ Γ fun x => b.w χ Γ fun y => c.w χ Γ fun z => W.N (((Γ.set i (.dat x)).set j (.dat y)).set k (.dat z)) := rfl
/-- x, y, z = a new list, f, g -/
def WS.par3F (i j k : Nat) (a : WF K E) (b c : WE K E) : WS K E := ⟨tPar3 i j k (tCons a.t (tCons b.t (tCons c.t tNil))), a.m + b.m + c.m, fun χ Γ W => a.w χ Γ fun ds => b.w χ Γ fun y => c.w χ Γ fun z => W.N (((Γ.set i (.own ds)).set j (.dat y)).set k (.dat z)), fun {p χ Γ W} h Hb Hd0 H0 σ Hd H n o l x En k1 k2 k3 k4 => by
  refine a.ok h σ Hd H n o.sr o.g.s o.pe (by omega) (x.grow o.g) _ fun a' vs ds Hd1 H1 g1 e nd fr ne pe1 f1 r1 => ?_
  have o1 := o.grow g1 pe1
  refine b.ok f1 σ Hd1 H1 _ o1.sr o1.g.s o1.pe (by omega) (x.grow o1.g) _ fun v2 d2 Hd2 H2 g2 pe2 f2 r2 => ?_
  have o2 := o1.grow g2 pe2
  have e2 : H2 a' = some (.lst vs) := g2.h _ _ ne (.inr fun _ z => by cases z) e
  have nd2 : Hd2 a' = none := g2.f _ (by rw [e]; simp) nd
  refine c.ok f2 σ Hd2 H2 _ o2.sr o2.g.s o2.pe (by omega) (x.grow o2.g) _ fun v3 d3 Hd3 H3 g3 pe3 f3 r3 => ?_
  have o3 := o2.grow g3 pe3
  have e3 : H3 a' = some (.lst vs) := g3.h _ _ ne (.inr fun _ z => by cases z) e2
  have nd3 : Hd3 a' = none := g3.f _ (by rw [e2]; simp) nd2
  have o4 := o3.adopt (i := i) (a := a') (k0 := .own ds) rfl ⟨a', vs, rfl, e3, nd3, r1.mono (g2.d.trans g3.d), ne⟩ (o.nu fr) (o.g.free fr)
  exact ⟨_, _, _, rfl, k1 _ _ _ _ f3 (((o4.set (r2.mono g3.d)).set r3).more (by omega))⟩⟩
theorem w_par3F {i j k : Nat} {a : WF K E} {b c : WE K E} {χ : Xq} {Γ : List Sk} {W : Wh} : (WS.par3F i j k a b c).w χ Γ W = a.w χ Γ fun ds => b.w χ Γ fun y => c.w χ Γ fun z => W.N (((Γ.set i (.own ds)).set j (.dat y)).set k (.dat z)) := rfl
theorem pe_joink {X : Cx} {o e : Expr} {to te : TE} {apos pos : Pos} (ho : PE X o to) (he : PE X e te) (h : X.K = K := by rfl) (hs : starEach [e] X.env = [(false, eval e X.env)] := by rfl) (hbase : attributeBase o "join" X.env (eval o X.env) = eval o X.env := by rfl) (hline : (apos.endLine == pos.line) = true := by rfl) :
    PE X (.Call (.Attribute o "join" apos) [e] [] pos) (tM1 (rJoin K) to te) := h ▸ pe_join ho he hs hbase hline
end
end DL
set_option maxRecDepth 100000
set_option maxHeartbeats 4000000
/-! DLC: bundles: enumerate of a list or tuple; sorted of a list of tuples of keys. -/
namespace DL
open PySem PyProof.Rows L2
variable [Tbl]
theorem itd_enumT {K : PySem.W.Frag} {Hd : Hp} {a : Addr} {xs : List V} {ds : List D} (h : SqT K Hd a xs) (r : Reps K Hd xs ds) : ItD K Hd (IteT K a) (enumD ds) := fun Hd' H' e1 e2 => by
  have h' : SqT K H' a xs := same_sqt (e1.trans e2) h
  have hl := r.length
  have hl2 : (enumD ds).length = ds.length := by simp [enumD]
  refine ⟨fun i hi => ⟨xs, xs[i]'(by omega), h', List.getElem?_eq_getElem _⟩, fun i hi => ⟨xs, h', by omega⟩, fun i v H'' y d hd => ?_⟩
  obtain ⟨T, x, e, hT, eH, y⟩ := y
  subst e; subst eH
  obtain ⟨e, q1, q2⟩ := enumD_get hd
  subst q2
  obtain ⟨w, q3, q4⟩ := (r.mono e1).get q1
  have q := y xs h'
  rw [q] at q3; cases q3
  have g := Grow.new (p := none) (o := HO.tup [.int (i : Nat), x]) e2 hT
  exact ⟨_, g, .tup (SqT.of upd_same) (.cons (.int _) (.cons (q4.mono g.d) .nil))⟩
section
variable {K : PySem.W.Frag} {E : XK}
def WI.enumU (a : WA K E) : WI K E := ⟨iEnumU K a.t, a.m, fun χ Γ φ => a.w χ Γ fun as => ∃ ds, (as = [.lst ds] ∨ as = [.tup ds]) ∧ φ (enumD ds), fun {p χ Γ φ} h σ Hd H n s sa pe l x R q => by
  refine a.ok h σ Hd H n s sa pe l x _ fun vs as Hd1 H1 g1 pe1 ⟨ds, e, f⟩ r1 => ?_
  rcases e with e | e
  · subst e
    cases r1 with | cons a r => cases r; cases a with | lst h1 r => exact ⟨_, _, rfl, .inl ⟨SqL.of (g1.s _ _ h1), q _ _ Hd1 H1 g1 pe1 f (itd_enum h1 r)⟩⟩
  · subst e
    cases r1 with | cons a r => cases r; cases a with | tup h1 r => exact ⟨_, _, rfl, .inr ⟨same_sqt g1.s h1, q _ _ Hd1 H1 g1 pe1 f (itd_enumT h1 r)⟩⟩⟩
theorem w_enumU {a : WA K E} {χ : Xq} {Γ : List Sk} {φ : List D → Prop} : (WI.enumU a).w χ Γ φ = a.w χ Γ fun as => ∃ ds, (as = [.lst ds] ∨ as = [.tup ds]) ∧ φ (enumD ds) := rfl
theorem pi_enumUk {X : Cx} {e : Expr} {ta : TA} {p pos tpos : Pos} {elts : List Expr} {kk : Nat} (hg : Gl X "enumerate") (hm : X.mg "enumerate" = none) (ha : PA X [e] ta) (h : X.K = K := by rfl) (hs : starEach [e] X.env = [(false, eval e X.env)] := by rfl) :
    PI X (.Tuple elts kk tpos) (.Call (.Name "enumerate" p) [e] [] pos) (iEnumU K ta) := h ▸ pi_enumU hg hm ha hs
end
/-! ### sorted(xs), xs a list of tuples -/
theorem perm_map_inv {α β : Type} {f : α → β} {l m : List β} (p : l.Perm m) : ∀ {es : List α}, m = es.map f → ∃ es' : List α, l = es'.map f ∧ es'.Perm es := by
  induction p with
  | nil =>
    intro es e
    cases es with
    | nil => exact ⟨[], rfl, .refl _⟩
    | cons a es => cases e
  | cons x _ ih =>
    intro es e
    cases es with
    | nil => cases e
    | cons a es =>
      rw [List.map_cons] at e
      injection e with e1 e2
      obtain ⟨es', q1, q2⟩ := ih e2
      exact ⟨a :: es', by rw [List.map_cons, ← q1, e1], q2.cons a⟩
  | swap x y l =>
    intro es e
    match es, e with
    | a :: b :: es, e =>
      rw [List.map_cons, List.map_cons] at e
      injection e with e1 e2
      injection e2 with e2 e3
      exact ⟨b :: a :: es, by rw [List.map_cons, List.map_cons, ← e3, e1, e2], .swap a b es⟩
    | [a], e => injection e with e1 e2; cases e2
    | [], e => cases e
  | trans _ _ ih1 ih2 =>
    intro es e
    obtain ⟨es2, q1, q2⟩ := ih2 e
    obtain ⟨es1, q3, q4⟩ := ih1 q1
    exact ⟨es1, q3, q4.trans q2⟩
theorem lexLe_uniq : ∀ {l m : List (List Key)}, l.Perm m → l.Pairwise (fun x y => lexK y x = false) → m.Pairwise (fun x y => lexK y x = false) → l = m
  | [], m, p, _, _ => List.Perm.nil_eq p
  | x :: l, [], p, _, _ => absurd p.length_eq (by simp)
  | x :: l, y :: m, p, h1, h2 => by
    obtain ⟨a1, a2⟩ := List.pairwise_cons.mp h1
    obtain ⟨b1, b2⟩ := List.pairwise_cons.mp h2
    have e : x = y := by
      rcases List.mem_cons.mp (p.mem_iff.mp List.mem_cons_self) with q | q
      · exact q
      · rcases List.mem_cons.mp (p.mem_iff.mpr (List.mem_cons_self (a := y) (l := m))) with z | z
        · exact z.symm
        · rcases lexK_tri x y with c | c | c
          · rw [b1 x q] at c; cases c
          · exact c
          · rw [a1 y z] at c; cases c
    subst e
    rw [lexLe_uniq (List.Perm.cons_inv p) a2 b2]
def srtT (kss : List (List Key)) : List (List Key) := kss.mergeSort fun a b => !lexK b a
theorem srtT_perm (kss : List (List Key)) : (srtT kss).Perm kss := List.mergeSort_perm _ _
theorem srtT_le (kss : List (List Key)) : (srtT kss).Pairwise fun x y => lexK y x = false := by
  have h : (srtT kss).Pairwise fun a b => (!lexK b a) = true := by
    refine List.pairwise_mergeSort (fun a b c h1 h2 => ?_) (fun a b => ?_) _
    · cases q : lexK c a with
      | false => rfl
      | true =>
        rcases lexK_tri a b with z | z | z
        · rw [lexK_tr q z] at h2; cases h2
        · rw [← z, q] at h2; cases h2
        · rw [z] at h1; cases h1
    · cases q : lexK b a with
      | false => simp
      | true => rw [lexK_asym q]; simp
  exact h.imp fun {x y} h => by simpa using h
theorem srtT_eq {kss ys : List (List Key)} (p : ys.Perm kss) (h : ys.Pairwise fun x y => lexK y x = false) : ys = srtT kss := lexLe_uniq (p.trans (srtT_perm kss).symm) h (srtT_le kss)
/-- without double ones: sorted is sorted(set) -/
theorem srtT_asc {kss : List (List Key)} (h : kss.Nodup) : srtT kss = ascT kss := by
  refine ascT_eq (fun k => (srtT_perm kss).mem_iff) ?_
  exact ((srtT_le kss).and ((srtT_perm kss).nodup_iff.mpr h)).imp fun {x y} h => by
    rcases lexK_tri x y with c | c | c
    · exact c
    · exact absurd c h.2
    · rw [h.1] at c; cases c
def rSortedE (K : PySem.W.Frag) : List V → Hp → VK → Prop := fun vs H Q => ∃ (a : Addr) (es : List Ent) (b : Bool), vs = [.ref a] ∧ SqL K H a (es.map fun q => V.ref q.1) ∧ (∀ q ∈ es, SqT K H q.1 (q.2.map kV)) ∧
  (2 ≤ es.length → (∀ q ∈ es, ∃ k r, q.2 = k :: r ∧ k.isRight = b) ∧ ∀ q ∈ es, ∀ r ∈ es, homo q.2 r.2) ∧
  ∀ es' : List Ent, es'.Perm es → es'.Pairwise (fun q r => lexK r.2 q.2 = false) → ∀ p, H p = none → Q (.ref p) (upd H p (.lst (es'.map fun q => V.ref q.1)))
theorem kV_maps : ∀ {ks js : List Key}, ks.map kV = js.map kV → ks = js
  | [], [], _ => rfl
  | [], _ :: _, h => by cases h
  | _ :: _, [], h => by cases h
  | a :: ks, b :: js, h => by
    rw [List.map_cons, List.map_cons] at h
    injection h with h1 h2
    rw [kV_inj h1, kV_maps h2]
theorem cr_sortedE {X : Cx} : CallR X (.builtin "sorted") (rSortedE X.K) := fun pins s σ H vs us Q I r h => by
  obtain ⟨a, es, b, rfl, hs, ht, hk, q⟩ := h
  refine cr_sortedK pins s σ H [.ref a] us Q I r ⟨a, _, b, rfl, hs, fun h2 => ?_, fun ys py pw p hp => ?_⟩
  · rw [List.length_map] at h2
    obtain ⟨h3, h4⟩ := hk h2
    have uniq : ∀ q ∈ es, ∀ ks, TupK X.K H (.ref q.1) ks → ks = q.2 := fun q hq ks ⟨t, e, z⟩ => by
      cases e
      exact kV_maps (I.tuple_inj z (ht q hq))
    refine ⟨fun x hx => ?_, fun x hx y hy ks js k1 k2 => ?_⟩
    · obtain ⟨q, hq, rfl⟩ := List.mem_map.mp hx
      exact ⟨q.2, ⟨q.1, rfl, ht q hq⟩, h3 q hq⟩
    · obtain ⟨q, hq, rfl⟩ := List.mem_map.mp hx
      obtain ⟨r, hr, rfl⟩ := List.mem_map.mp hy
      rw [uniq q hq ks k1, uniq r hr js k2]
      exact h4 q hq r hr
  · obtain ⟨es', rfl, p2⟩ := perm_map_inv py rfl
    refine q es' p2 (List.Pairwise.imp_of_mem (fun {x y} hx hy h => ?_) (List.pairwise_map.mp pw)) p hp
    exact h x.2 y.2 ⟨_, rfl, ht x (p2.mem_iff.mp hx)⟩ ⟨_, rfl, ht y (p2.mem_iff.mp hy)⟩
section
variable {K : PySem.W.Frag} {E : XK}
theorem cr_sortedEk {X : Cx} (h : X.K = K := by rfl) : CallR X (.builtin "sorted") (rSortedE K) := h ▸ cr_sortedE
def ON.sortedE : ON K := ⟨rSortedE K, fun as φ => ∃ kss : List (List Key), as = [.lst (kss.map tupD)] ∧ (2 ≤ kss.length → (∃ b, ∀ k ∈ kss, ∃ i r, k = i :: r ∧ i.isRight = b) ∧ ∀ k ∈ kss, ∀ j ∈ kss, homo k j) ∧ φ (.lst ((srtT kss).map tupD)), fun {p E χ as φ} h xs Hd H s ra Q q => by
  obtain ⟨kss, rfl, h2, f⟩ := h
  cases ra with | cons a r => cases r; cases a with | lst h1 rs =>
    obtain ⟨es, rfl, rfl, ht⟩ := reps_tups rs
    have fin : ∀ es' : List Ent, es'.Perm es → es'.Pairwise (fun q r => lexK r.2 q.2 = false) → ∀ p, H p = none → Q (.ref p) (upd H p (.lst (es'.map fun q => V.ref q.1))) := fun es' pe pw p hp => by
      have e : es'.map (·.2) = srtT (es.map (·.2)) := srtT_eq (pe.map _) (List.pairwise_map.mpr pw)
      have g := Grow.new (p := none) (o := HO.lst (es'.map fun q => V.ref q.1)) s hp
      rw [← e] at f
      exact q _ _ _ _ g f (.lst upd_same ((tups_reps fun r hr => ht r (pe.mem_iff.mp hr)).mono g.d))
    by_cases two : 2 ≤ es.length
    · obtain ⟨⟨b, h3⟩, h4⟩ := h2 (by rw [List.length_map]; exact two)
      exact ⟨_, es, b, rfl, SqL.of (s _ _ h1), fun q hq => same_sqt s (ht q hq), fun _ => ⟨fun q hq => h3 q.2 (List.mem_map.mpr ⟨q, hq, rfl⟩), fun q hq r hr => h4 _ (List.mem_map.mpr ⟨q, hq, rfl⟩) _ (List.mem_map.mpr ⟨r, hr, rfl⟩)⟩, fin⟩
    · exact ⟨_, es, true, rfl, SqL.of (s _ _ h1), fun q hq => same_sqt s (ht q hq), fun z => absurd z two, fin⟩⟩
theorem n_sortedE {as : List D} {φ : D → Prop} : (ON.sortedE (K := K)).w as φ = ∃ kss : List (List Key), as = [.lst (kss.map tupD)] ∧ (2 ≤ kss.length → (∃ b, ∀ k ∈ kss, ∃ i r, k = i :: r ∧ i.isRight = b) ∧ ∀ k ∈ kss, ∀ j ∈ kss, homo k j) ∧ φ (.lst ((srtT kss).map tupD)) := rfl
/-- int(x), x an int or a truth value -/
def ON.int2 : ON K := ⟨fun xs H Q => (∃ i, xs = [.int i] ∧ Q (.int i) H) ∨ ∃ k, xs = [.bl k] ∧ Q (.int (if k then 1 else 0)) H, fun as φ => match as with | [.int i] => φ (.int i) | [.bl b] => φ (.int (if b then 1 else 0)) | _ => False, fun {p E χ as φ} h xs Hd H s ra Q q => by
  split at h
  · cases ra with | cons a r => cases r; cases a; exact .inl ⟨_, rfl, q _ _ Hd H (.refl s) h (.int _)⟩
  · cases ra with | cons a r => cases r; cases a; exact .inr ⟨_, rfl, q _ _ Hd H (.refl s) h (.int _)⟩
  · exact h.elim⟩
theorem n_int2 {i : Int} {φ : D → Prop} : (ON.int2 (K := K)).w [.int i] φ = φ (.int i) := rfl
theorem n_int2b {b : Bool} {φ : D → Prop} : (ON.int2 (K := K)).w [.bl b] φ = φ (.int (if b then 1 else 0)) := rfl
end
end DL
set_option maxRecDepth 100000
set_option maxHeartbeats 4000000
/-! DLN: != of a list of data with empty dicts in it and the same data again. -/
namespace DL
open PySem L2 PyProof.Rows
variable [Tbl]
mutual
/-- data whose copy is equal to it: scalars, lists, tuples, empty dicts -/
def D.dup : D → Bool
  | .non => true | .bl _ => true | .int _ => true | .str _ => true
  | .lst ds => D.dups ds | .tup ds => D.dups ds
  | .dct ks ds => ks.isEmpty && ds.isEmpty
  | .dcf _ _ => false | .dtf _ _ => false | .obj _ _ _ => false | .exc _ _ _ _ => false | .ptr _ => false | .err _ _ _ => false
def D.dups : List D → Bool
  | [] => true
  | d :: ds => D.dup d && D.dups ds
end
theorem Vals.len {vs : List V} {us : List Value} (h : Vals vs us) : vs.length = us.length := by
  induction h with
  | nil => rfl
  | cons _ _ k => rw [List.length_cons, List.length_cons, k]
section
variable {X : Cx} {pins : List (Addr × Obj)} {σ : L2.St} {H : Hp} {s : Shared}
/-- an empty dict, in any program and world -/
theorem dct0_of (I : Inv X pins σ H s) {a : Addr} (h : H a = some (.dK [])) (P : Program) (w : World) : (a == sysModules) = false ∧ s.heap.DictOf (mixKind P w) a [] := by
  obtain ⟨_, ya, va, ra, da⟩ := (show ObjOk X.prog X.w H s.heap a (.dK []) from I.hok a _ h)
  obtain ⟨o, es, ep, h1, h2, h3, h4, h5, h6⟩ := da
  have e0 : es.toList = [] := by
    have := h5.length
    have r0 := ra.length
    have : es.toList.length = 0 := by rw [this, ← r0]; rfl
    exact List.length_eq_zero_iff.mp this
  refine ⟨ya, o, es, ep, h1, h2, h3, fun e he => ?_, ?_, List.nodup_nil⟩
  · exact absurd (Array.mem_toList_iff.mpr he) (by rw [e0]; exact List.not_mem_nil)
  · rw [e0]; exact .nil
theorem dct0_rc (I : Inv X pins σ H s) {A : Around} (hu : A.units < cLine) {a b : Addr} (h : H a = some (.dK [])) (h' : H b = some (.dK [])) : SeqAt.RcAt A s (.ref a) (.ref b) true := fun P w E Q q =>
  PySem.W.rcP_dicts (knd := mixKind P w) (r := true) (dct0_of I h P w).1 (dct0_of I h' P w).1 (dct0_of I h P w).2 (dct0_of I h' P w).2 hu (fun _ => .nil) E Q q
theorem all_true {n : Nat} : ((List.range n).all fun _ => true) = true := List.all_eq_true.mpr fun _ _ => rfl
theorem eq_refs {A : Around} {a b : Addr} (h : SeqAt.RcAt A s (.ref a) (.ref b) true) : SeqAt.EqAt A s (.ref a) (.ref b) true := by
  by_cases e : a = b
  · subst e; exact SeqAt.EqAt.same _
  · exact SeqAt.EqAt.of_refs e h
mutual
theorem dup_eq (I : Inv X pins σ H s) : ∀ (d : D) (A : Around) (x y : V) (v u : Value), d.dup = true → A.units + d.py.depth < cLine → Rep X.K H x d → Rep X.K H y d → RelV x v → RelV y u → SeqAt.EqAt A s v u true
  | .non, A, x, y, v, u, _, _, rx, ry, p, q => by cases rx; cases ry; exact eqAt_same p q rfl
  | .bl _, A, x, y, v, u, _, _, rx, ry, p, q => by cases rx; cases ry; exact eqAt_same p q rfl
  | .int _, A, x, y, v, u, _, _, rx, ry, p, q => by cases rx; cases ry; exact eqAt_same p q rfl
  | .str _, A, x, y, v, u, _, _, rx, ry, p, q => by cases rx; cases ry; exact eqAt_same p q rfl
  | .lst ds, A, x, y, v, u, h, hu, rx, ry, p, q => by
    cases rx with | lst h1 r1 => cases ry with | lst h2 r2 =>
    cases p; cases q
    have e : (D.lst ds).py.depth = PyData.depthAll (D.pys ds) + 1 := rfl
    obtain ⟨us, v1, p1, _⟩ := I.list (SqL.of h1)
    obtain ⟨ws, v2, p2, _⟩ := I.list (SqL.of h2)
    have l1 := Vals.len v1
    have l2 := Vals.len v2
    have l3 := r1.length
    have l4 := r2.length
    have := SeqAt.RcAt.lists (A := A) (s := s) (e := fun _ => true) p1.isList p2.isList (by simp; omega) (by omega) (fun j j1 j2 => by
      have := dups_eq I ds A.in1 _ _ us ws h (by show A.units + 1 + _ < cLine; omega) r1 r2 v1 v2 j (by simpa using j1) (by simpa using j2)
      simpa using this)
    rw [all_true] at this
    exact eq_refs this
  | .tup ds, A, x, y, v, u, h, hu, rx, ry, p, q => by
    cases rx with | tup h1 r1 => cases ry with | tup h2 r2 =>
    cases p; cases q
    have e : (D.tup ds).py.depth = PyData.depthAll (D.pys ds) + 1 := rfl
    obtain ⟨us, v1, p1, _⟩ := I.tuple h1
    obtain ⟨ws, v2, p2, _⟩ := I.tuple h2
    have l1 := Vals.len v1
    have l2 := Vals.len v2
    have l3 := r1.length
    have l4 := r2.length
    have := SeqAt.RcAt.tuples (A := A) (s := s) (e := fun _ => true) p1 p2 (by omega) (fun j j1 j2 => by
      have := dups_eq I ds A.in1 _ _ us ws h (by show A.units + 1 + _ < cLine; omega) r1 r2 v1 v2 j (by simpa using j1) (by simpa using j2)
      simpa using this)
    rw [all_true, Bool.true_and, show (us.toArray.size == ws.toArray.size) = true by simp; omega] at this
    exact eq_refs this
  | .dct ks ds, A, x, y, v, u, h, hu, rx, ry, p, q => by
    have h' := Bool.and_eq_true_iff.mp (show (ks.isEmpty && ds.isEmpty) = true from h)
    have k0 : ks = [] := List.isEmpty_iff.mp h'.1
    subst k0
    cases rx with | dct h1 _ _ => cases ry with | dct h2 _ _ =>
    cases p; cases q
    exact eq_refs (dct0_rc I (by omega) h1 h2)
  | .dcf _ _, _, _, _, _, _, h, _, _, _, _, _ => absurd (show false = true from h) (by decide)
  | .dtf _ _, _, _, _, _, _, h, _, _, _, _, _ => absurd (show false = true from h) (by decide)
  | .obj _ _ _, _, _, _, _, _, h, _, _, _, _, _ => absurd (show false = true from h) (by decide)
  | .exc _ _ _ _, _, _, _, _, _, h, _, _, _, _, _ => absurd (show false = true from h) (by decide)
  | .ptr _, _, _, _, _, _, h, _, _, _, _, _ => absurd (show false = true from h) (by decide)
  | .err _ _ _, _, _, _, _, _, h, _, _, _, _, _ => absurd (show false = true from h) (by decide)
theorem dups_eq (I : Inv X pins σ H s) : ∀ (ds : List D) (A : Around) (xs ys : List V) (us ws : List Value), D.dups ds = true → A.units + PyData.depthAll (D.pys ds) < cLine → Reps X.K H xs ds → Reps X.K H ys ds → Vals xs us → Vals ys ws →
    ∀ j (h1 : j < us.length) (h2 : j < ws.length), SeqAt.EqAt A s us[j] ws[j] true
  | [], A, xs, ys, us, ws, _, _, rx, ry, p, q, j, h1, h2 => by
    cases rx; cases p; exact absurd h1 (Nat.not_lt_zero _)
  | d :: ds, A, xs, ys, us, ws, h, hu, rx, ry, p, q, j, h1, h2 => by
    have h' := Bool.and_eq_true_iff.mp (show (D.dup d && D.dups ds) = true from h)
    have e : PyData.depthAll (D.pys (d :: ds)) = max d.py.depth (PyData.depthAll (D.pys ds)) := rfl
    cases rx with | cons a r1 => cases ry with | cons b r2 =>
    cases p with | cons p1 p2 => cases q with | cons q1 q2 =>
    cases j with
    | zero => exact dup_eq I d A _ _ _ _ h'.1 (by omega) a b p1 q1
    | succ j => exact dups_eq I ds A _ _ _ _ h'.2 (by omega) r1 r2 p2 q2 j (Nat.lt_of_succ_lt_succ h1) (Nat.lt_of_succ_lt_succ h2)
end
/-- != of data; or of a list and its like -/
def rNeS (K : PySem.W.Frag) : R2 := fun x y H Q => rNeD K x y H Q ∨ ∃ ds, Rep K H x (.lst ds) ∧ Rep K H y (.lst ds) ∧ D.dups ds = true ∧ PyData.depthAll (D.pys ds) ≤ 60 ∧ Q (.bl false) H
end
theorem op_neS {X : Cx} (hu : X.A.units + 64 < cLine) : OpR X (compareOp .NotEq) (rNeS X.K) := by
  intro pins s σ H x y v u Q I rx ry h
  rcases h with h | ⟨ds, ra, rb, hd, hn, q⟩
  · exact op_neD hu pins s σ H x y v u Q I rx ry h
  cases ra with | lst h1 r1 => cases rb with | lst h2 r2 =>
  cases rx; cases ry
  obtain ⟨us, v1, p1, _⟩ := I.list (SqL.of h1)
  obtain ⟨ws, v2, p2, _⟩ := I.list (SqL.of h2)
  have l1 := Vals.len v1
  have l2 := Vals.len v2
  have l3 := r1.length
  have l4 := r2.length
  have := SeqAt.RcNeAt.lists (A := X.A) (s := s) (e := fun _ => true) p1.isList p2.isList (by simp; omega) (by omega) (fun j j1 j2 => by
    have := dups_eq I ds X.A.in1 _ _ us ws hd (by show X.A.units + 1 + _ < cLine; omega) r1 r2 v1 v2 j (by simpa using j1) (by simpa using j2)
    simpa using this)
  rw [all_true] at this
  exact this X.prog X.w _ _ ⟨.bl false, H, I, rfl, q⟩
/-- == of data; or of a list and [] -/
def rEqS (K : PySem.W.Frag) : R2 := fun x y H Q => rEqD K x y H Q ∨ ∃ ds, Rep K H x (.lst ds) ∧ Rep K H y (.lst []) ∧ Q (.bl ds.isEmpty) H
theorem op_eqS {X : Cx} (hu : X.A.units + 64 < cLine) : OpR X (compareOp .Eq) (rEqS X.K) := by
  intro pins s σ H x y v u Q I rx ry h
  rcases h with h | ⟨ds, ra, rb, q⟩
  · exact op_eqD hu pins s σ H x y v u Q I rx ry h
  cases ra with | lst h1 r1 => cases rb with | lst h2 r2 =>
  cases rx; cases ry
  obtain ⟨us, v1, p1, _⟩ := I.list (SqL.of h1)
  obtain ⟨ws, v2, p2, _⟩ := I.list (SqL.of h2)
  have l1 := Vals.len v1
  have l2 := Vals.len v2
  have l3 := r1.length
  have l4 := r2.length
  cases ds with
  | nil =>
    have e1 : us = [] := List.length_eq_zero_iff.mp (by rw [← l1, l3]; rfl)
    have e2 : ws = [] := List.length_eq_zero_iff.mp (by rw [← l2, l4]; rfl)
    subst e1; subst e2
    exact SeqAt.RcAt.lists (A := X.A) (s := s) (e := fun _ => true) p1.isList p2.isList rfl (by omega) (fun j j1 => absurd j1 (Nat.not_lt_zero _)) X.prog X.w _ _ ⟨.bl true, H, I, rfl, q⟩
  | cons d ds =>
    have n1 : us.length = ds.length + 1 := by rw [← l1, l3]; rfl
    have n2 : ws.length = 0 := by rw [← l2, l4]; rfl
    exact SeqAt.RcAt.lists_lengths (A := X.A) (s := s) p1.isList p2.isList (by simp [n1, n2]) (by omega) X.prog X.w _ _ ⟨.bl false, H, I, rfl, q⟩
theorem op_eqSk {X : Cx} {K : PySem.W.Frag} (hu : X.A.units + 64 < cLine) (h : X.K = K := by rfl) : OpR X (compareOp .Eq) (rEqS K) := h ▸ op_eqS hu
theorem op_neSk {X : Cx} {K : PySem.W.Frag} (hu : X.A.units + 64 < cLine) (h : X.K = K := by rfl) : OpR X (compareOp .NotEq) (rNeS K) := h ▸ op_neS hu
section
variable {K : PySem.W.Frag}
def O2.neS : O2 K := ⟨rNeS K, fun a b φ => (a.ok = true ∧ b.ok = true ∧ φ (.bl (!a.eqv b))) ∨ ∃ ds, a = .lst ds ∧ b = .lst ds ∧ D.dups ds = true ∧ PyData.depthAll (D.pys ds) ≤ 60 ∧ φ (.bl false), fun {p E χ a b φ} h => by
  rcases h with h | ⟨ds, rfl, rfl, hd, hn, f⟩
  · exact fun x y Hd H s ra rb Q q => .inl ((o2_ne (c := ⟨K, p, E, χ⟩) h.1 h.2.1).to h.2.2 x y Hd H s ra rb Q q)
  · exact fun x y Hd H s ra rb Q q => .inr ⟨ds, ra.mono s, rb.mono s, hd, hn, q _ _ _ _ (.refl s) f (.bl _)⟩⟩
def O2.eqS : O2 K := ⟨rEqS K, fun a b φ => (a.ok = true ∧ b.ok = true ∧ φ (.bl (a.eqv b))) ∨ ∃ ds, a = .lst ds ∧ b = .lst [] ∧ φ (.bl ds.isEmpty), fun {p E χ a b φ} h => by
  rcases h with h | ⟨ds, rfl, rfl, f⟩
  · exact fun x y Hd H s ra rb Q q => .inl ((o2_eq (c := ⟨K, p, E, χ⟩) h.1 h.2.1).to h.2.2 x y Hd H s ra rb Q q)
  · exact fun x y Hd H s ra rb Q q => .inr ⟨ds, ra.mono s, rb.mono s, q _ _ _ _ (.refl s) f (.bl _)⟩⟩
theorem q_eqS {x y : D} {φ : D → Prop} : (O2.eqS (K := K)).w x y φ = ((x.ok = true ∧ y.ok = true ∧ φ (.bl (x.eqv y))) ∨ ∃ ds, x = .lst ds ∧ y = .lst [] ∧ φ (.bl ds.isEmpty)) := rfl
theorem q_neS {x y : D} {φ : D → Prop} : (O2.neS (K := K)).w x y φ = ((x.ok = true ∧ y.ok = true ∧ φ (.bl (!x.eqv y))) ∨ ∃ ds, x = .lst ds ∧ y = .lst ds ∧ D.dups ds = true ∧ PyData.depthAll (D.pys ds) ≤ 60 ∧ φ (.bl false)) := rfl
/-- {} -/
def WE.dct0 {E : XK} : WE K E := ⟨tDNewK, 0, fun χ Γ φ => φ (.dct [] []), fun {p χ Γ φ} h σ Hd H n s sa pe l x Q q => fun a hD => by
  have g := Grow.new (p := none) (o := HO.dK []) sa hD
  exact q _ _ _ _ g.up (pe.grow g) h (.dct (ks := []) (xs := []) upd_same rfl .nil)⟩
theorem w_dct0 {E : XK} {χ : Xq} {Γ : List Sk} {φ : D → Prop} : (WE.dct0 (K := K) (E := E)).w χ Γ φ = φ (.dct [] []) := rfl
end
end DL
set_option maxRecDepth 100000
set_option maxHeartbeats 4000000
/-! DLD: x in l, x not in l for data of any depth. -/
namespace DL
open PySem PySem.Spec L2 PyProof.Rows
variable [Tbl]
def seqP (isT : Bool) (ds : List PyData) : PyData := if isT then .tuple ds else .list ds
def rInDp (K : PySem.W.Frag) (neg : Bool) : R2 := fun x y H Q => ∃ t d ds, Dp K H x d ∧ Dp K H y (seqP t ds) ∧ SeqAt.shaped d = true ∧ SeqAt.shaped (seqP t ds) = true ∧ Q (.bl (neg ^^ (ds.any fun z => PyData.eqv z d))) H
theorem op_inDp {X : Cx} (hu : X.A.units + 65 < cLine) : OpR X (compareOp .In) (rInDp X.K false) := by
  intro pins s σ H x y v u Q I rx ry h
  obtain ⟨t, d, ds, hd, he, sd, se, q⟩ := h
  obtain ⟨as, r1⟩ := Dp.reads I d x v hd rx
  obtain ⟨bs, r2⟩ := Dp.reads I (seqP t ds) y u he ry
  cases t with
  | false => exact SeqAt.in_list_reads r2 r1 (SeqAt.canLay_of_shaped se) (SeqAt.canLay_of_shaped sd) (room_in_shaped sd hu) ⟨.bl _, H, I, rfl, by simpa using q⟩
  | true => exact SeqAt.in_tuple_reads r2 r1 (SeqAt.canLay_of_shaped se) (SeqAt.canLay_of_shaped sd) (room_in_shaped sd hu) ⟨.bl _, H, I, rfl, by simpa using q⟩
theorem op_ninDp {X : Cx} (hu : X.A.units + 65 < cLine) : OpR X (compareOp .NotIn) (rInDp X.K true) := by
  intro pins s σ H x y v u Q I rx ry h
  obtain ⟨t, d, ds, hd, he, sd, se, q⟩ := h
  obtain ⟨as, r1⟩ := Dp.reads I d x v hd rx
  obtain ⟨bs, r2⟩ := Dp.reads I (seqP t ds) y u he ry
  cases t with
  | false => exact SeqAt.notIn_list_reads r2 r1 (SeqAt.canLay_of_shaped se) (SeqAt.canLay_of_shaped sd) (room_in_shaped sd hu) ⟨.bl _, H, I, rfl, by simpa using q⟩
  | true => exact SeqAt.notIn_tuple_reads r2 r1 (SeqAt.canLay_of_shaped se) (SeqAt.canLay_of_shaped sd) (room_in_shaped sd hu) ⟨.bl _, H, I, rfl, by simpa using q⟩
def rInE (K : PySem.W.Frag) : R2 := fun x y H Q => rInU K x y H Q ∨ rInDp K false x y H Q
def rNinE (K : PySem.W.Frag) : R2 := fun x y H Q => rNinU K x y H Q ∨ rInDp K true x y H Q
theorem op_inEk {X : Cx} {K : PySem.W.Frag} (hu : X.A.units + 66 < cLine) (h : X.K = K := by rfl) : OpR X (compareOp .In) (rInE K) := h ▸ OpR.or op_inU (op_inDp (by omega))
theorem op_ninEk {X : Cx} {K : PySem.W.Frag} (hu : X.A.units + 66 < cLine) (h : X.K = K := by rfl) : OpR X (compareOp .NotIn) (rNinE K) := h ▸ OpR.or op_ninU (op_ninDp (by omega))
/-- some item is equal to x -/
def anyE (x : D) (ds : List D) : Bool := ds.any fun z => z.eqv x
theorem any_pys (x : D) : ∀ ds : List D, ((D.pys ds).any fun z => PyData.eqv z x.py) = anyE x ds
  | [] => rfl
  | d :: ds => by
    show ((D.py d :: D.pys ds).any fun z => PyData.eqv z x.py) = _
    rw [List.any_cons, any_pys x ds]; rfl
theorem tup_ok {ds : List D} : (D.tup ds).ok = (D.lst ds).ok := by
  unfold D.ok D.plain SeqAt.shaped
  show (D.plains ds && (PyData.canLay0 (.tuple (D.pys ds)) && _)) = (D.plains ds && (PyData.canLay0 (.list (D.pys ds)) && _))
  rfl
section
variable {K : PySem.W.Frag}
theorem inDp_tup {neg : Bool} {a : D} {ds : List D} {x y : V} {Hd H : Hp} {Q : VK} (s : Same Hd H) (h1 : a.ok = true) (h2 : (D.tup ds).ok = true) (ra : Rep K Hd x a) (rb : Rep K Hd y (.tup ds)) (q : Q (.bl (neg ^^ anyE a ds)) H) : rInDp K neg x y H Q :=
  ⟨true, a.py, D.pys ds, (ra.mono s).dp (D.ok_plain h1), (rb.mono s).dp (D.ok_plain h2), D.ok_shaped h1, D.ok_shaped h2, by rw [any_pys]; exact q⟩
theorem inDp_lst {neg : Bool} {a : D} {ds : List D} {x y : V} {Hd H : Hp} {Q : VK} (s : Same Hd H) (h1 : a.ok = true) (h2 : (D.lst ds).ok = true) (ra : Rep K Hd x a) (rb : Rep K Hd y (.lst ds)) (q : Q (.bl (neg ^^ anyE a ds)) H) : rInDp K neg x y H Q :=
  ⟨false, a.py, D.pys ds, (ra.mono s).dp (D.ok_plain h1), (rb.mono s).dp (D.ok_plain h2), D.ok_shaped h1, D.ok_shaped h2, by rw [any_pys]; exact q⟩
def O2.innE : O2 K := ⟨rInE K, fun a b φ => (O2.inn (K := K)).w a b φ ∨ ∃ ds, b.its = some ds ∧ a.ok = true ∧ b.ok = true ∧ φ (.bl (anyE a ds)), fun {p E χ a b φ} h x y Hd H s ra rb Q q => by
  rcases h with h | ⟨ds, e, h1, h2, f⟩
  · exact .inl ((O2.inn (K := K)).ok (p := p) (E := E) (χ := χ) h x y Hd H s ra rb Q q)
  · refine .inr ?_
    have q' := q _ _ _ _ (.refl s) f (.bl _)
    cases b with
    | tup l => cases e; exact inDp_tup s h1 h2 ra rb (by simpa using q')
    | lst l => cases e; exact inDp_lst s h1 h2 ra rb (by simpa using q')
    | _ => cases e⟩
def O2.ninE : O2 K := ⟨rNinE K, fun a b φ => (O2.nin (K := K)).w a b φ ∨ ∃ ds, b.its = some ds ∧ a.ok = true ∧ b.ok = true ∧ φ (.bl (!anyE a ds)), fun {p E χ a b φ} h x y Hd H s ra rb Q q => by
  rcases h with h | ⟨ds, e, h1, h2, f⟩
  · exact .inl ((O2.nin (K := K)).ok (p := p) (E := E) (χ := χ) h x y Hd H s ra rb Q q)
  · refine .inr ?_
    have q' := q _ _ _ _ (.refl s) f (.bl _)
    cases b with
    | tup l => cases e; exact inDp_tup s h1 h2 ra rb (by simpa using q')
    | lst l => cases e; exact inDp_lst s h1 h2 ra rb (by simpa using q')
    | _ => cases e⟩
theorem q_innE {x y : D} {φ : D → Prop} : (O2.innE (K := K)).w x y φ = ((O2.inn (K := K)).w x y φ ∨ ∃ ds, y.its = some ds ∧ x.ok = true ∧ y.ok = true ∧ φ (.bl (anyE x ds))) := rfl
theorem q_ninE {x y : D} {φ : D → Prop} : (O2.ninE (K := K)).w x y φ = ((O2.nin (K := K)).w x y φ ∨ ∃ ds, y.its = some ds ∧ x.ok = true ∧ y.ok = true ∧ φ (.bl (!anyE x ds))) := rfl
end
theorem is_tupG {K : PySem.W.Frag} {r : WGs K} : (WG.tup r).is = r.is := rfl
theorem is_seqG {K : PySem.W.Frag} {r : WGs K} : (WG.seq r).is = r.is := rfl
theorem is_consG {K : PySem.W.Frag} {a : WG K} {r : WGs K} : (WGs.cons a r).is = a.is ++ r.is := rfl
theorem is_nilG {K : PySem.W.Frag} : (WGs.nil (K := K)).is = [] := rfl
/-! ### equal data of one kind -/
mutual
/-- data without truth values: equal to another such if it is the same -/
def D.crisp : D → Bool
  | .non => true | .int _ => true | .str _ => true
  | .lst ds => D.crisps ds | .tup ds => D.crisps ds
  | _ => false
def D.crisps : List D → Bool
  | [] => true
  | d :: ds => D.crisp d && D.crisps ds
end
mutual
theorem eqv_crisp : ∀ (a b : D), a.crisp = true → b.crisp = true → (a.eqv b = true ↔ a = b)
  | .non, .non, _, _ => by simp [D.eqv, D.py, PyData.eqv]
  | .non, .int _, _, _ => by simp [D.eqv, D.py, PyData.eqv]
  | .non, .str _, _, _ => by simp [D.eqv, D.py, PyData.eqv]
  | .non, .lst _, _, _ => by simp [D.eqv, D.py, PyData.eqv]
  | .non, .tup _, _, _ => by simp [D.eqv, D.py, PyData.eqv]
  | .int _, .non, _, _ => by simp [D.eqv, D.py, PyData.eqv]
  | .int _, .int _, _, _ => by simp [D.eqv, D.py, PyData.eqv]
  | .int _, .str _, _, _ => by simp [D.eqv, D.py, PyData.eqv]
  | .int _, .lst _, _, _ => by simp [D.eqv, D.py, PyData.eqv]
  | .int _, .tup _, _, _ => by simp [D.eqv, D.py, PyData.eqv]
  | .str _, .non, _, _ => by simp [D.eqv, D.py, PyData.eqv]
  | .str _, .int _, _, _ => by simp [D.eqv, D.py, PyData.eqv]
  | .str _, .str _, _, _ => by simp [D.eqv, D.py, PyData.eqv]
  | .str _, .lst _, _, _ => by simp [D.eqv, D.py, PyData.eqv]
  | .str _, .tup _, _, _ => by simp [D.eqv, D.py, PyData.eqv]
  | .lst _, .non, _, _ => by simp [D.eqv, D.py, PyData.eqv]
  | .lst _, .int _, _, _ => by simp [D.eqv, D.py, PyData.eqv]
  | .lst _, .str _, _, _ => by simp [D.eqv, D.py, PyData.eqv]
  | .lst _, .tup _, _, _ => by simp [D.eqv, D.py, PyData.eqv]
  | .tup _, .non, _, _ => by simp [D.eqv, D.py, PyData.eqv]
  | .tup _, .int _, _, _ => by simp [D.eqv, D.py, PyData.eqv]
  | .tup _, .str _, _, _ => by simp [D.eqv, D.py, PyData.eqv]
  | .tup _, .lst _, _, _ => by simp [D.eqv, D.py, PyData.eqv]
  | .lst as, .lst bs, ha, hb => by
    have := eqvs_crisp as bs ha hb
    simpa [D.eqv, D.py, PyData.eqv] using this
  | .tup as, .tup bs, ha, hb => by
    have := eqvs_crisp as bs ha hb
    simpa [D.eqv, D.py, PyData.eqv] using this
theorem eqvs_crisp : ∀ (as bs : List D), D.crisps as = true → D.crisps bs = true → (PyData.eqvAll (D.pys as) (D.pys bs) = true ↔ as = bs)
  | [], [], _, _ => by simp [D.pys, PyData.eqvAll]
  | [], _ :: _, _, _ => by simp [D.pys, PyData.eqvAll]
  | _ :: _, [], _, _ => by simp [D.pys, PyData.eqvAll]
  | a :: as, b :: bs, ha, hb => by
    have ha' := Bool.and_eq_true_iff.mp (show (D.crisp a && D.crisps as) = true from ha)
    have hb' := Bool.and_eq_true_iff.mp (show (D.crisp b && D.crisps bs) = true from hb)
    have h1 := eqv_crisp a b ha'.1 hb'.1
    have h2 := eqvs_crisp as bs ha'.2 hb'.2
    rw [show PyData.eqvAll (D.pys (a :: as)) (D.pys (b :: bs)) = (a.eqv b && PyData.eqvAll (D.pys as) (D.pys bs)) by simp [D.pys, PyData.eqvAll, D.eqv], Bool.and_eq_true, h1, h2, List.cons.injEq]
end
theorem anyE_mem {x : D} {ds : List D} (hx : x.crisp = true) (hd : ∀ d ∈ ds, d.crisp = true) : anyE x ds = true ↔ x ∈ ds := by
  unfold anyE
  rw [List.any_eq_true]
  constructor
  · rintro ⟨d, h1, h2⟩
    rw [(eqv_crisp d x (hd d h1) hx).mp h2] at h1; exact h1
  · intro h; exact ⟨x, h, (eqv_crisp x x hx hx).mpr rfl⟩
end DL
set_option maxRecDepth 100000
set_option maxHeartbeats 8000000
namespace K67
open PySem L2 PyProof.Rows DL
instance : Tbl := ⟨[(231, "law.<locals>.<lambda>")]⟩
def top (i : Nat) : Stmt := PySem.Challenge.pw_lentvoices_k67_bodies_judged.main.body.getD i (.Pass ⟨0, 0, 0, 0⟩)
abbrev s_BadBody___init__ : Stmt := inClass (top 2) 0
abbrev N_BadBody___init__ : List Str := ["self", "body"]
theorem sc_BadBody___init__ : FnScope N_BadBody___init__ ["self", "body"] (defScope s_BadBody___init__) := ⟨rfl, rfl, rfl, by decide +kernel, rfl, by decide +kernel, by decide +kernel⟩
abbrev s_is_whole : Stmt := top 4
abbrev N_is_whole : List Str := ["value", "least", "most"]
theorem sc_is_whole : FnScope N_is_whole ["value", "least", "most"] (defScope s_is_whole) := ⟨rfl, rfl, rfl, by decide +kernel, rfl, by decide +kernel, by decide +kernel⟩
abbrev s_ascending : Stmt := top 5
abbrev N_ascending : List Str := ["names"]
theorem sc_ascending : FnScope N_ascending ["names"] (defScope s_ascending) := ⟨rfl, rfl, rfl, by decide +kernel, rfl, by decide +kernel, by decide +kernel⟩
abbrev s_is_made_of : Stmt := top 11
abbrev N_is_made_of : List Str := ["value", "signs", "most", "sign"]
theorem sc_is_made_of : FnScope N_is_made_of ["value", "signs", "most"] (defScope s_is_made_of) := ⟨rfl, rfl, rfl, by decide +kernel, rfl, by decide +kernel, by decide +kernel⟩
abbrev s_is_name : Stmt := top 12
abbrev N_is_name : List Str := ["value"]
theorem sc_is_name : FnScope N_is_name ["value"] (defScope s_is_name) := ⟨rfl, rfl, rfl, by decide +kernel, rfl, by decide +kernel, by decide +kernel⟩
abbrev s_is_word : Stmt := top 13
abbrev N_is_word : List Str := ["value"]
theorem sc_is_word : FnScope N_is_word ["value"] (defScope s_is_word) := ⟨rfl, rfl, rfl, by decide +kernel, rfl, by decide +kernel, by decide +kernel⟩
abbrev s_is_quoted : Stmt := top 16
abbrev N_is_quoted : List Str := ["parts"]
theorem sc_is_quoted : FnScope N_is_quoted ["parts"] (defScope s_is_quoted) := ⟨rfl, rfl, rfl, by decide +kernel, rfl, by decide +kernel, by decide +kernel⟩
abbrev s_is_piece : Stmt := top 17
abbrev N_is_piece : List Str := ["value"]
theorem sc_is_piece : FnScope N_is_piece ["value"] (defScope s_is_piece) := ⟨rfl, rfl, rfl, by decide +kernel, rfl, by decide +kernel, by decide +kernel⟩
abbrev s_is_body : Stmt := top 18
abbrev N_is_body : List Str := ["value", "piece"]
theorem sc_is_body : FnScope N_is_body ["value"] (defScope s_is_body) := ⟨rfl, rfl, rfl, by decide +kernel, rfl, by decide +kernel, by decide +kernel⟩
abbrev s_need_body : Stmt := top 19
abbrev N_need_body : List Str := ["body"]
theorem sc_need_body : FnScope N_need_body ["body"] (defScope s_need_body) := ⟨rfl, rfl, rfl, by decide +kernel, rfl, by decide +kernel, by decide +kernel⟩
abbrev s_words_of : Stmt := top 20
abbrev N_words_of : List Str := ["body", "piece"]
theorem sc_words_of : FnScope N_words_of ["body"] (defScope s_words_of) := ⟨rfl, rfl, rfl, by decide +kernel, rfl, by decide +kernel, by decide +kernel⟩
abbrev s_quotes_of : Stmt := top 21
abbrev N_quotes_of : List Str := ["body", "piece"]
theorem sc_quotes_of : FnScope N_quotes_of ["body"] (defScope s_quotes_of) := ⟨rfl, rfl, rfl, by decide +kernel, rfl, by decide +kernel, by decide +kernel⟩
abbrev s_copies_of : Stmt := top 22
abbrev N_copies_of : List Str := ["body", "piece"]
theorem sc_copies_of : FnScope N_copies_of ["body"] (defScope s_copies_of) := ⟨rfl, rfl, rfl, by decide +kernel, rfl, by decide +kernel, by decide +kernel⟩
abbrev s_law_pen : Stmt := top 24
abbrev N_law_pen : List Str := ["script", "fold", "cell"]
theorem sc_law_pen : FnScope N_law_pen ["script"] (defScope s_law_pen) := ⟨rfl, rfl, rfl, by decide +kernel, rfl, by decide +kernel, by decide +kernel⟩
abbrev s_law_draw : Stmt := top 25
abbrev N_law_draw : List Str := ["pen", "many", "cell", "digit", "blend"]
theorem sc_law_draw : FnScope N_law_draw ["pen", "many"] (defScope s_law_draw) := ⟨rfl, rfl, rfl, by decide +kernel, rfl, by decide +kernel, by decide +kernel⟩
abbrev s_law_pick : Stmt := top 26
abbrev N_law_pick : List Str := ["pen", "some"]
theorem sc_law_pick : FnScope N_law_pick ["pen", "some"] (defScope s_law_pick) := ⟨rfl, rfl, rfl, by decide +kernel, rfl, by decide +kernel, by decide +kernel⟩
abbrev s_law_is_name : Stmt := top 27
abbrev N_law_is_name : List Str := ["word", "small", "one"]
theorem sc_law_is_name : FnScope N_law_is_name ["word"] (defScope s_law_is_name) := ⟨rfl, rfl, rfl, by decide +kernel, rfl, by decide +kernel, by decide +kernel⟩
abbrev s_law_is_plain : Stmt := top 28
abbrev N_law_is_plain : List Str := ["word", "signs", "one"]
theorem sc_law_is_plain : FnScope N_law_is_plain ["word"] (defScope s_law_is_plain) := ⟨rfl, rfl, rfl, by decide +kernel, rfl, by decide +kernel, by decide +kernel⟩
abbrev s_law_wide_name : Stmt := top 29
abbrev N_law_wide_name : List Str := ["pen", "taken", "lap", "name", "spot", "some", "index"]
theorem sc_law_wide_name : FnScope N_law_wide_name ["pen", "taken"] (defScope s_law_wide_name) := ⟨rfl, rfl, rfl, by decide +kernel, rfl, by decide +kernel, by decide +kernel⟩
abbrev s_law_plain : Stmt := top 30
abbrev N_law_plain : List Str := ["pen", "word", "spot"]
theorem sc_law_plain : FnScope N_law_plain ["pen"] (defScope s_law_plain) := ⟨rfl, rfl, rfl, by decide +kernel, rfl, by decide +kernel, by decide +kernel⟩
abbrev s_law_long_number : Stmt := top 31
abbrev N_law_long_number : List Str := ["pen", "found", "lap"]
theorem sc_law_long_number : FnScope N_law_long_number ["pen"] (defScope s_law_long_number) := ⟨rfl, rfl, rfl, by decide +kernel, rfl, by decide +kernel, by decide +kernel⟩
abbrev s_law_is_whole : Stmt := top 32
abbrev N_law_is_whole : List Str := ["value"]
theorem sc_law_is_whole : FnScope N_law_is_whole ["value"] (defScope s_law_is_whole) := ⟨rfl, rfl, rfl, by decide +kernel, rfl, by decide +kernel, by decide +kernel⟩
abbrev s_law_is_any_name : Stmt := top 33
abbrev N_law_is_any_name : List Str := ["value"]
theorem sc_law_is_any_name : FnScope N_law_is_any_name ["value"] (defScope s_law_is_any_name) := ⟨rfl, rfl, rfl, by decide +kernel, rfl, by decide +kernel, by decide +kernel⟩
abbrev s_law_wide_piece : Stmt := top 34
abbrev N_law_wide_piece : List Str := ["pen", "way", "one", "two"]
theorem sc_law_wide_piece : FnScope N_law_wide_piece ["pen"] (defScope s_law_wide_piece) := ⟨rfl, rfl, rfl, by decide +kernel, rfl, by decide +kernel, by decide +kernel⟩
abbrev s_law_says : Stmt := top 35
abbrev N_law_says : List Str := ["told", "due"]
theorem sc_law_says : FnScope N_law_says ["told", "due"] (defScope s_law_says) := ⟨rfl, rfl, rfl, by decide +kernel, rfl, by decide +kernel, by decide +kernel⟩
abbrev s_law_is_piece : Stmt := top 36
abbrev N_law_is_piece : List Str := ["piece"]
theorem sc_law_is_piece : FnScope N_law_is_piece ["piece"] (defScope s_law_is_piece) := ⟨rfl, rfl, rfl, by decide +kernel, rfl, by decide +kernel, by decide +kernel⟩
abbrev s_law_is_right_body : Stmt := top 37
abbrev N_law_is_right_body : List Str := ["value", "piece"]
theorem sc_law_is_right_body : FnScope N_law_is_right_body ["value"] (defScope s_law_is_right_body) := ⟨rfl, rfl, rfl, by decide +kernel, rfl, by decide +kernel, by decide +kernel⟩
abbrev s_law_bent_piece : Stmt := top 38
abbrev N_law_bent_piece : List Str := ["pen", "piece", "found", "way", "at"]
theorem sc_law_bent_piece : FnScope N_law_bent_piece ["pen", "piece"] (defScope s_law_bent_piece) := ⟨rfl, rfl, rfl, by decide +kernel, rfl, by decide +kernel, by decide +kernel⟩
abbrev s_law_made_body : Stmt := top 39
abbrev N_law_made_body : List Str := ["pen", "body", "at", "k"]
theorem sc_law_made_body : FnScope N_law_made_body ["pen"] (defScope s_law_made_body) := ⟨rfl, rfl, rfl, by decide +kernel, rfl, by decide +kernel, by decide +kernel⟩
abbrev s_law_why_body : Stmt := top 40
abbrev N_law_why_body : List Str := ["call", "found", "error"]
theorem sc_law_why_body : FnScope N_law_why_body ["call"] (defScope s_law_why_body) := ⟨rfl, rfl, rfl, by decide +kernel, rfl, by decide +kernel, by decide +kernel⟩
abbrev s_law : Stmt := top 41
abbrev N_law : List Str := ["script", "pen", "lap", "value", "is_right", "why", "words", "quotes", "copies", "twice", "piece", "at"]
theorem sc_law : FnScope N_law ["script"] (defScope s_law) := ⟨rfl, rfl, rfl, by decide +kernel, rfl, by decide +kernel, by decide +kernel⟩
structure Txt (K : PySem.W.Frag) (mg : Str → Option Value) (a_QUOTING a_BadBody i_BadBody : Addr) : Prop where
  b_all : mg "all" = none
  b_bool : mg "bool" = none
  b_enumerate : mg "enumerate" = none
  b_int : mg "int" = none
  b_isinstance : mg "isinstance" = none
  b_len : mg "len" = none
  b_list : mg "list" = none
  b_range : mg "range" = none
  b_set : mg "set" = none
  b_sorted : mg "sorted" = none
  b_str : mg "str" = none
  b_tuple : mg "tuple" = none
  g_LETTERS : ∃ u, mg "LETTERS" = some u ∧ RelV (.str "abcdefghijklmnopqrstuvwxyz") u
  g_FIGURES : ∃ u, mg "FIGURES" = some u ∧ RelV (.str "0123456789") u
  g_LONGEST_WORD : ∃ u, mg "LONGEST_WORD" = some u ∧ RelV (.int 12) u
  g_QUOTING : ∃ u, mg "QUOTING" = some u ∧ RelV (.ref a_QUOTING) u
  t_QUOTING : ∀ H, SqT K H a_QUOTING [(.str "see"), (.str "copy")]
  g_MOST_PIECES : ∃ u, mg "MOST_PIECES" = some u ∧ RelV (.int 20) u
  x_BadBody : OwnC K mg "BadBody" a_BadBody i_BadBody ["body"]
structure Defs (K : PySem.W.Frag) (mg : Str → Option Value) (a_QUOTING a_BadBody i_BadBody : Addr) : Prop where
  e_BadBody : ∃ fd, Fun K "__init__" "BadBody.__init__" s_BadBody___init__ i_BadBody fd ∧ Binds K fd ["self", "body"] []
  d_is_whole_1 : Def K mg "is_whole" s_is_whole ["value", "least", "most"] [.non]
  d_ascending : Def K mg "ascending" s_ascending ["names"] []
  d_is_made_of : Def K mg "is_made_of" s_is_made_of ["value", "signs", "most"] []
  d_is_name : Def K mg "is_name" s_is_name ["value"] []
  d_is_word : Def K mg "is_word" s_is_word ["value"] []
  d_is_quoted : Def K mg "is_quoted" s_is_quoted ["parts"] []
  d_is_piece : Def K mg "is_piece" s_is_piece ["value"] []
  d_is_body : Def K mg "is_body" s_is_body ["value"] []
  d_need_body : Def K mg "need_body" s_need_body ["body"] []
  d_words_of : Def K mg "words_of" s_words_of ["body"] []
  d_quotes_of : Def K mg "quotes_of" s_quotes_of ["body"] []
  d_copies_of : Def K mg "copies_of" s_copies_of ["body"] []
  d_law_pen : Def K mg "_law_pen" s_law_pen ["script"] []
  d_law_draw : Def K mg "_law_draw" s_law_draw ["pen", "many"] []
  d_law_pick : Def K mg "_law_pick" s_law_pick ["pen", "some"] []
  d_law_is_name : Def K mg "_law_is_name" s_law_is_name ["word"] []
  d_law_is_plain : Def K mg "_law_is_plain" s_law_is_plain ["word"] []
  d_law_wide_name : Def K mg "_law_wide_name" s_law_wide_name ["pen", "taken"] []
  d_law_plain : Def K mg "_law_plain" s_law_plain ["pen"] []
  d_law_long_number : Def K mg "_law_long_number" s_law_long_number ["pen"] []
  d_law_is_whole : Def K mg "_law_is_whole" s_law_is_whole ["value"] []
  d_law_is_any_name : Def K mg "_law_is_any_name" s_law_is_any_name ["value"] []
  d_law_wide_piece : Def K mg "_law_wide_piece" s_law_wide_piece ["pen"] []
  d_law_says : Def K mg "_law_says" s_law_says ["told", "due"] []
  d_law_is_piece : Def K mg "_law_is_piece" s_law_is_piece ["piece"] []
  d_law_is_right_body : Def K mg "_law_is_right_body" s_law_is_right_body ["value"] []
  d_law_bent_piece : Def K mg "_law_bent_piece" s_law_bent_piece ["pen", "piece"] []
  d_law_made_body : Def K mg "_law_made_body" s_law_made_body ["pen"] []
  d_law_why_body : Def K mg "_law_why_body" s_law_why_body ["call"] []
  d_law : Def K mg "law" s_law ["script"] []
/-! ### the mathematics: what a name, a word, a body, a saying is -/
/-- a value that may be asked: no object; a text is not too long -/
structure LV (d : D) : Prop where
  bi : d.builtin = true
  len : ∀ z, d = .str z → z.length ≤ 999999
theorem LV.of {d : D} (h : GV d) : LV d := ⟨h.bi, fun z e => by subst e; have := h.strLen; omega⟩
theorem LV.sl {z : Str} (h : LV (.str z)) : (D.str z).len = some z.length := len_str (Nat.le_trans (h.len z rfl) (by decide))
def madeB (sg : Str) (most : Int) : D → Bool
  | .str z => (decide ((1 : Int) ≤ (z.length : Int)) && decide ((z.length : Int) ≤ most)) && z.cps.toList.all fun c => decide (c ∈ sg.cps.toList)
  | _ => false
abbrev sLET : Str := "abcdefghijklmnopqrstuvwxyz"
abbrev sFIG : Str := "0123456789"
abbrev sLF : Str := sLET ++ sFIG
def headB : D → Bool
  | .str z => match z.cps.toList with
    | c :: _ => decide (c ∈ sLET.cps.toList)
    | [] => false
  | _ => false
def nameB (d : D) : Bool := madeB sLF 12 d && headB d
def wholeB (lo : Int) (hi : Option Int) : D → Bool
  | .int i => decide (lo ≤ i) && (match hi with | none => true | some h => decide (i ≤ h))
  | _ => false
def hiD : D → Option (Option Int)
  | .non => some none
  | .int i => some (some i)
  | _ => none
def quotB : D → Bool
  | .str z => decide (z = "see") || decide (z = "copy")
  | _ => false
def wordB (d : D) : Bool := madeB sLF 12 d && !quotB d
def subjB : D → Bool
  | .str z => decide ((Txt.split z ".").length < 3) && (Txt.split z ".").all fun p => nameB (.str p)
  | _ => false
def pieceT (w : Str) : List D → Bool
  | [a] => decide (w = "word") && wordB a
  | [a, b] => decide (w = "see") && (nameB a && nameB b)
  | [a, b, n] => decide (w = "copy") && ((nameB a && nameB b) && wholeB 1 none n)
  | _ => false
def pieceB : D → Bool
  | .tup (.str w :: l) => pieceT w l
  | _ => false
def bodyB : D → Bool
  | .tup ds => decide (ds.length ≤ 20) && ds.all pieceB
  | _ => false
def sideB : D → Bool
  | .str z => decide (z = "for") || (decide (z = "against") || decide (z = "none"))
  | _ => false
def sayT (w : Str) : List D → Bool
  | [a] => decide (w = "take") && nameB a
  | [a, b] => if w = "vouch" ∨ w = "circle" then nameB a && wholeB 0 (some 24) b else if w = "back" ∨ w = "block" then nameB a && b.isB else false
  | [a, b, c] => if w = "speak" then nameB a && (subjB b && sideB c) else if w = "post" then nameB a && (nameB b && bodyB c) else false
  | _ => false
def sayingB (d : D) : Bool := match d.its with
  | some (.str w :: l) => sayT w l
  | _ => false
def prQ : D → Prop
  | .tup [a, b] => LV a ∧ LV b
  | _ => False
def quB : D → Bool
  | .tup [a, b] => nameB a && nameB b
  | _ => false
def pr3 (d : D) : Prop := match d.its with
  | some [a, b, c] => GV a ∧ GV b ∧ GV c
  | _ => False
def speB (d : D) : Bool := match d.its with
  | some [a, b, c] => nameB a && (subjB b && sideB c)
  | _ => false
def pstB (d : D) : Bool := match d.its with
  | some [a, b, c] => nameB a && (nameB b && bodyB c)
  | _ => false
theorem pr3_of {d : D} (h : pr3 d) : ∃ a b c, d.its = some [a, b, c] ∧ GV a ∧ GV b ∧ GV c := by
  unfold pr3 at h
  split at h
  · rename_i a b c e; exact ⟨a, b, c, e, h⟩
  · exact h.elim
theorem ne_1 : ¬ (("see" : Str) = "word") := by decide +kernel
theorem ne_2 : ¬ (("copy" : Str) = "word") := by decide +kernel
theorem ne_3 : ¬ (("copy" : Str) = "see") := by decide +kernel
theorem ne_take_vouch : ¬ (("take" : Str) = "vouch") := by decide +kernel
theorem ne_take_circle : ¬ (("take" : Str) = "circle") := by decide +kernel
theorem ne_take_back : ¬ (("take" : Str) = "back") := by decide +kernel
theorem ne_take_block : ¬ (("take" : Str) = "block") := by decide +kernel
theorem ne_take_speak : ¬ (("take" : Str) = "speak") := by decide +kernel
theorem ne_take_post : ¬ (("take" : Str) = "post") := by decide +kernel
theorem ne_vouch_take : ¬ (("vouch" : Str) = "take") := by decide +kernel
theorem ne_vouch_circle : ¬ (("vouch" : Str) = "circle") := by decide +kernel
theorem ne_vouch_back : ¬ (("vouch" : Str) = "back") := by decide +kernel
theorem ne_vouch_block : ¬ (("vouch" : Str) = "block") := by decide +kernel
theorem ne_vouch_speak : ¬ (("vouch" : Str) = "speak") := by decide +kernel
theorem ne_vouch_post : ¬ (("vouch" : Str) = "post") := by decide +kernel
theorem ne_circle_take : ¬ (("circle" : Str) = "take") := by decide +kernel
theorem ne_circle_vouch : ¬ (("circle" : Str) = "vouch") := by decide +kernel
theorem ne_circle_back : ¬ (("circle" : Str) = "back") := by decide +kernel
theorem ne_circle_block : ¬ (("circle" : Str) = "block") := by decide +kernel
theorem ne_circle_speak : ¬ (("circle" : Str) = "speak") := by decide +kernel
theorem ne_circle_post : ¬ (("circle" : Str) = "post") := by decide +kernel
theorem ne_back_take : ¬ (("back" : Str) = "take") := by decide +kernel
theorem ne_back_vouch : ¬ (("back" : Str) = "vouch") := by decide +kernel
theorem ne_back_circle : ¬ (("back" : Str) = "circle") := by decide +kernel
theorem ne_back_block : ¬ (("back" : Str) = "block") := by decide +kernel
theorem ne_back_speak : ¬ (("back" : Str) = "speak") := by decide +kernel
theorem ne_back_post : ¬ (("back" : Str) = "post") := by decide +kernel
theorem ne_block_take : ¬ (("block" : Str) = "take") := by decide +kernel
theorem ne_block_vouch : ¬ (("block" : Str) = "vouch") := by decide +kernel
theorem ne_block_circle : ¬ (("block" : Str) = "circle") := by decide +kernel
theorem ne_block_back : ¬ (("block" : Str) = "back") := by decide +kernel
theorem ne_block_speak : ¬ (("block" : Str) = "speak") := by decide +kernel
theorem ne_block_post : ¬ (("block" : Str) = "post") := by decide +kernel
theorem ne_speak_take : ¬ (("speak" : Str) = "take") := by decide +kernel
theorem ne_speak_vouch : ¬ (("speak" : Str) = "vouch") := by decide +kernel
theorem ne_speak_circle : ¬ (("speak" : Str) = "circle") := by decide +kernel
theorem ne_speak_back : ¬ (("speak" : Str) = "back") := by decide +kernel
theorem ne_speak_block : ¬ (("speak" : Str) = "block") := by decide +kernel
theorem ne_speak_post : ¬ (("speak" : Str) = "post") := by decide +kernel
theorem ne_post_take : ¬ (("post" : Str) = "take") := by decide +kernel
theorem ne_post_vouch : ¬ (("post" : Str) = "vouch") := by decide +kernel
theorem ne_post_circle : ¬ (("post" : Str) = "circle") := by decide +kernel
theorem ne_post_back : ¬ (("post" : Str) = "back") := by decide +kernel
theorem ne_post_block : ¬ (("post" : Str) = "block") := by decide +kernel
theorem ne_post_speak : ¬ (("post" : Str) = "speak") := by decide +kernel
theorem strs_or {z a b : Str} : (a == z || b == z) = (decide (z = a) || decide (z = b)) := by
  rw [Bool.eq_iff_iff]
  simp only [Bool.or_eq_true, beq_iff_eq, decide_eq_true_eq]
  exact ⟨fun h => h.imp Eq.symm Eq.symm, fun h => h.imp Eq.symm Eq.symm⟩
theorem strs_or3 {z a b c : Str} : (a == z || (b == z || c == z)) = (decide (z = a) || (decide (z = b) || decide (z = c))) := by
  rw [Bool.eq_iff_iff]
  simp only [Bool.or_eq_true, beq_iff_eq, decide_eq_true_eq]
  exact ⟨fun h => h.imp Eq.symm fun h => h.imp Eq.symm Eq.symm, fun h => h.imp Eq.symm fun h => h.imp Eq.symm Eq.symm⟩
theorem split_len {z p : Str} (h : p ∈ Txt.split z ".") : p.length ≤ z.length := PyProof.Rows.part_short h
theorem sub_in {x : Str} {i j c : Nat} (h : c ∈ (Builtin.Str.strSub x i j).cps.toList) : c ∈ x.cps.toList := by
  have e : (Builtin.Str.strSub x i j).cps = x.cps.extract i j := rfl
  rw [e, Array.toList_extract] at h
  exact List.mem_of_mem_drop (List.mem_of_mem_take h)
theorem from_in (x : Str) (w : Nat) : ∀ (cuts : List Nat) (a : Nat), ∀ p ∈ StrLaws.partsFrom x w a cuts, ∀ c ∈ p.cps.toList, c ∈ x.cps.toList
  | [], a, p, hp => by rw [List.mem_singleton.mp hp]; exact fun c => sub_in
  | k :: r, a, p, hp => by
    rcases List.mem_cons.mp hp with rfl | hp'
    · exact fun c => sub_in
    · exact from_in x w r _ p hp'
theorem split_in {x y a : Str} (h : a ∈ Txt.split x y) : ∀ c ∈ a.cps.toList, c ∈ x.cps.toList := by
  unfold Txt.split at h
  split at h
  · rw [List.mem_singleton.mp h]; exact fun c h => h
  · split at h
    · rw [List.mem_singleton.mp h]; exact fun c h => h
    · rw [StrLaws.partsBetween_eq] at h
      exact from_in x _ _ _ a h
theorem split_ok {x y a : Str} {k j n : Nat} (h : a ∈ Txt.split x y) (g : GD k n (.str x)) : GD j n (.str a) := .str (strOk_sub (split_in h) g.strOk) (by have := g.strLen; have := PyProof.Rows.part_short h; omega)
theorem split_pos {x y : Str} : 0 < (Txt.split x y).length := by
  unfold Txt.split
  split
  · simp
  · split
    · simp
    · rw [PyProof.Rows.len_partsBetween]; omega
theorem nameB_len {z : Str} (h : ¬ (1 : Int) ≤ z.length ∨ ¬ (z.length : Int) ≤ 12) : nameB (.str z) = false := by
  have e : madeB sLF 12 (.str z) = false := by
    show ((decide ((1 : Int) ≤ (z.length : Int)) && decide ((z.length : Int) ≤ 12)) && _) = false
    rcases h with h | h
    · rw [decide_eq_false h]; rfl
    · rw [decide_eq_false h, Bool.and_false]; rfl
  rw [nameB, e]; rfl
theorem wordB_len {z : Str} (h : ¬ (1 : Int) ≤ z.length ∨ ¬ (z.length : Int) ≤ 12) : wordB (.str z) = false := by
  have e : madeB sLF 12 (.str z) = false := by
    show ((decide ((1 : Int) ≤ (z.length : Int)) && decide ((z.length : Int) ≤ 12)) && _) = false
    rcases h with h | h
    · rw [decide_eq_false h]; rfl
    · rw [decide_eq_false h, Bool.and_false]; rfl
  rw [wordB, e]; rfl
theorem madeB_in {z sg : Str} (h1 : (1 : Int) ≤ z.length) (h2 : (z.length : Int) ≤ 12) : madeB sg 12 (.str z) = z.cps.toList.all fun c => decide (c ∈ sg.cps.toList) := by
  show ((decide ((1 : Int) ≤ (z.length : Int)) && decide ((z.length : Int) ≤ 12)) && _) = _
  rw [decide_eq_true h1, decide_eq_true h2]; rfl
theorem cons_of {z : Str} (h1 : (1 : Int) ≤ z.length) : ∃ c cs, z.cps.toList = c :: cs := by
  cases e : z.cps.toList with
  | nil =>
    have := len_cps (z := z)
    rw [e] at this
    simp at this
    omega
  | cons c cs => exact ⟨c, cs, rfl⟩
def inSign (sg : Str) (d : D) : Bool := match d.sign with
  | some k => decide (k ∈ sg.cps.toList)
  | none => false
theorem all_signs {z sg : Str} : (DL.signs z).all (inSign sg) = z.cps.toList.all fun c => decide (c ∈ sg.cps.toList) := by
  unfold DL.signs
  rw [List.all_map]
  rfl
theorem GV.lv {d : D} (h : GV d) : LV d := LV.of h
theorem madeB_some {sg : Str} {m : Int} {d : D} (h : madeB sg m d = true) : ∃ z c cs, d = .str z ∧ z.cps.toList = c :: cs ∧ (z.length : Int) ≤ m := by
  cases d with
  | str z =>
    simp [madeB] at h
    cases e : z.cps.toList with
    | nil =>
      have : z.length = 0 := by rw [← len_cps, e]; rfl
      omega
    | cons c cs => exact ⟨z, c, cs, rfl, e, h.1.2⟩
  | _ => cases h
/-! ### right pieces -/
def headIs (w : Str) : D → Bool
  | .tup (.str z :: _) => decide (z = w)
  | _ => false
def secD : D → D
  | .tup (_ :: a :: _) => a
  | d => d
def restD : D → D
  | .tup (_ :: l) => .tup l
  | d => d
def toK : D → Key
  | .int i => .inl i
  | .str s => .inr s
  | _ => .inl 0
def keysD : D → List Key
  | .tup (_ :: l) => l.map toK
  | _ => []
theorem nameB_str {d : D} (h : nameB d = true) : ∃ z, d = .str z := by
  cases d with
  | str z => exact ⟨z, rfl⟩
  | _ => simp [nameB, madeB] at h
theorem wordB_str {d : D} (h : wordB d = true) : ∃ z, d = .str z := by
  cases d with
  | str z => exact ⟨z, rfl⟩
  | _ => simp [wordB, madeB] at h
theorem whole1_int {d : D} (h : wholeB 1 none d = true) : ∃ i, d = .int i := by
  cases d with
  | int z => exact ⟨z, rfl⟩
  | _ => simp [wholeB] at h
theorem piece_view {d : D} (h : pieceB d = true) : (∃ z, d = .tup [.str "word", .str z]) ∨ (∃ a b, d = .tup [.str "see", .str a, .str b]) ∨ ∃ a b n, d = .tup [.str "copy", .str a, .str b, .int n] := by
  unfold pieceB at h
  split at h
  · rename_i w l
    unfold pieceT at h
    split at h
    · rename_i a
      rw [Bool.and_eq_true, decide_eq_true_eq] at h
      obtain ⟨rfl, h2⟩ := h
      obtain ⟨z, rfl⟩ := wordB_str h2
      exact .inl ⟨z, rfl⟩
    · rename_i a b
      rw [Bool.and_eq_true, Bool.and_eq_true, decide_eq_true_eq] at h
      obtain ⟨rfl, h2, h3⟩ := h
      obtain ⟨y, rfl⟩ := nameB_str h2
      obtain ⟨z, rfl⟩ := nameB_str h3
      exact .inr (.inl ⟨y, z, rfl⟩)
    · rename_i a b n
      rw [Bool.and_eq_true, Bool.and_eq_true, Bool.and_eq_true, decide_eq_true_eq] at h
      obtain ⟨rfl, ⟨h2, h3⟩, h4⟩ := h
      obtain ⟨y, rfl⟩ := nameB_str h2
      obtain ⟨z, rfl⟩ := nameB_str h3
      obtain ⟨i, rfl⟩ := whole1_int h4
      exact .inr (.inr ⟨y, z, i, rfl⟩)
    · cases h
  · cases h
theorem body_view {d : D} (h : bodyB d = true) : ∃ ds, d = .tup ds ∧ ds.length ≤ 20 ∧ ∀ x ∈ ds, pieceB x = true := by
  cases d with
  | tup ds =>
    rw [bodyB, Bool.and_eq_true, decide_eq_true_eq, List.all_eq_true] at h
    exact ⟨ds, rfl, h.1, h.2⟩
  | _ => cases h
theorem ne_sw : ¬ (("see" : Str) = "word") := ne_1
theorem ne_ws : ¬ (("word" : Str) = "see") := by decide +kernel
theorem ne_wc : ¬ (("word" : Str) = "copy") := by decide +kernel
theorem ne_sc : ¬ (("see" : Str) = "copy") := by decide +kernel
/-- the quotes, the copies of a right body, as keys -/
def seesK (ds : List D) : List (List Key) := (ds.filter (headIs "see")).map keysD
def copsK (ds : List D) : List (List Key) := (ds.filter (headIs "copy")).map keysD
theorem sees_eq {ds : List D} (h : ∀ x ∈ ds, pieceB x = true) : (ds.filter (headIs "see")).map restD = (seesK ds).map tupD := by
  unfold seesK
  rw [List.map_map]
  refine List.map_congr_left fun d hd => ?_
  obtain ⟨h1, h2⟩ := List.mem_filter.mp hd
  rcases piece_view (h d h1) with ⟨z, rfl⟩ | ⟨a, b, rfl⟩ | ⟨a, b, n, rfl⟩
  · simp [headIs, ne_ws] at h2
  · rfl
  · simp [headIs, ne_3] at h2
theorem cops_eq {ds : List D} (h : ∀ x ∈ ds, pieceB x = true) : (ds.filter (headIs "copy")).map restD = (copsK ds).map tupD := by
  unfold copsK
  rw [List.map_map]
  refine List.map_congr_left fun d hd => ?_
  obtain ⟨h1, h2⟩ := List.mem_filter.mp hd
  rcases piece_view (h d h1) with ⟨z, rfl⟩ | ⟨a, b, rfl⟩ | ⟨a, b, n, rfl⟩
  · simp [headIs, ne_wc] at h2
  · simp [headIs, ne_sc] at h2
  · rfl
theorem sees_shape {ds : List D} (h : ∀ x ∈ ds, pieceB x = true) : ∀ k ∈ seesK ds, ∃ a b, k = [.inr a, .inr b] := fun k hk => by
  obtain ⟨d, hd, rfl⟩ := List.mem_map.mp hk
  obtain ⟨h1, h2⟩ := List.mem_filter.mp hd
  rcases piece_view (h d h1) with ⟨z, rfl⟩ | ⟨a, b, rfl⟩ | ⟨a, b, n, rfl⟩
  · simp [headIs, ne_ws] at h2
  · exact ⟨a, b, rfl⟩
  · simp [headIs, ne_3] at h2
theorem cops_shape {ds : List D} (h : ∀ x ∈ ds, pieceB x = true) : ∀ k ∈ copsK ds, ∃ a b n, k = [.inr a, .inr b, .inl n] := fun k hk => by
  obtain ⟨d, hd, rfl⟩ := List.mem_map.mp hk
  obtain ⟨h1, h2⟩ := List.mem_filter.mp hd
  rcases piece_view (h d h1) with ⟨z, rfl⟩ | ⟨a, b, rfl⟩ | ⟨a, b, n, rfl⟩
  · simp [headIs, ne_wc] at h2
  · simp [headIs, ne_sc] at h2
  · exact ⟨a, b, n, rfl⟩
/-- what sorted(set(..)) asks of tuples -/
def UniT (kss : List (List Key)) : Prop := (∃ b, ∀ k ∈ kss, ∃ i r, k = i :: r ∧ i.isRight = b) ∧ ∀ k ∈ kss, ∀ j ∈ kss, homo k j
theorem uni_sees {kss : List (List Key)} (h : ∀ k ∈ kss, ∃ a b : Str, k = [.inr a, .inr b]) : UniT kss := by
  refine ⟨⟨true, fun k hk => ?_⟩, fun k hk j hj => ?_⟩
  · obtain ⟨a, b, rfl⟩ := h k hk; exact ⟨_, _, rfl, rfl⟩
  · obtain ⟨a, b, rfl⟩ := h k hk
    obtain ⟨c, d, rfl⟩ := h j hj
    exact True.intro
theorem uni_cops {kss : List (List Key)} (h : ∀ k ∈ kss, ∃ (a b : Str) (n : Int), k = [.inr a, .inr b, .inl n]) : UniT kss := by
  refine ⟨⟨true, fun k hk => ?_⟩, fun k hk j hj => ?_⟩
  · obtain ⟨a, b, n, rfl⟩ := h k hk; exact ⟨_, _, rfl, rfl⟩
  · obtain ⟨a, b, n, rfl⟩ := h k hk
    obtain ⟨c, d, m, rfl⟩ := h j hj
    exact True.intro
theorem len_sees (ds : List D) : (seesK ds).length ≤ ds.length := by
  unfold seesK; rw [List.length_map]; exact List.length_filter_le _ _
theorem len_cops (ds : List D) : (copsK ds).length ≤ ds.length := by
  unfold copsK; rw [List.length_map]; exact List.length_filter_le _ _
def wordsD (d : D) : D := match d with
  | .tup ds => .tup ((ds.filter (headIs "word")).map secD)
  | _ => .non
def quotesD (d : D) : D := match d with
  | .tup ds => .tup ((ascT (seesK ds)).map tupD)
  | _ => .non
def copiesD (d : D) : D := match d with
  | .tup ds => .tup ((ascT (copsK ds)).map tupD)
  | _ => .non
theorem keyD_inj : ∀ {a b : Key}, keyD a = keyD b → a = b
  | .inl i, .inl j, h => by cases h; rfl
  | .inr x, .inr y, h => by cases h; rfl
  | .inl _, .inr _, h => by cases h
  | .inr _, .inl _, h => by cases h
theorem keysD_inj : ∀ {a b : List Key}, a.map keyD = b.map keyD → a = b
  | [], [], _ => rfl
  | [], _ :: _, h => by cases h
  | _ :: _, [], h => by cases h
  | a :: as, b :: bs, h => by
    rw [List.map_cons, List.map_cons] at h
    injection h with h1 h2
    rw [keyD_inj h1, keysD_inj h2]
theorem tupD_inj : ∀ {a b : List (List Key)}, a.map tupD = b.map tupD → a = b
  | [], [], _ => rfl
  | [], _ :: _, h => by cases h
  | _ :: _, [], h => by cases h
  | a :: as, b :: bs, h => by
    rw [List.map_cons, List.map_cons] at h
    injection h with h1 h2
    unfold tupD at h1
    injection h1 with h1
    rw [keysD_inj h1, tupD_inj h2]
theorem ok_w (w : Str) (h : w ∈ [("word" : Str), "see", "copy"]) : (D.str w).ok = true := by
  rcases List.mem_cons.mp h with rfl | h
  · decide +kernel
  · rcases List.mem_cons.mp h with rfl | h
    · decide +kernel
    · rw [List.mem_singleton.mp h]; decide +kernel
end K67
set_option maxRecDepth 100000
set_option maxHeartbeats 8000000
namespace K67
open PySem L2 PyProof.Rows DL
section
variable {P : Program} {w : World} {K : PySem.W.Frag} {mg : Str → Option Value} {base : Heap} {a_QUOTING a_BadBody i_BadBody : Addr}
local macro_rules | `(tactic| walk_at "w") => `(tactic| simp (config := { maxSteps := 10000000 }) only [DL.sub_un, DL.sub_pen, DL.sub_dat, DL.dsub_non, DL.dsub_bl, DL.dsub_int, DL.dsub_str, DL.dsub_ptr, DL.dsub_lst, DL.dsub_tup, DL.dsub_err, DL.dsubs_nil, DL.dsubs_cons, DL.w_isX, DL.w_isP, DL.w_sset, DL.w_enumU, DL.n_sortedE, DL.w_join, DL.w_ixO, DL.w_setAt, DL.ownI_0, DL.ownI_s, DL.w_wflc, DL.w_wflist, DL.w_asgF, DL.w_par3, DL.w_par3F, DL.w_lam, DL.w_toldA, DL.np_un, DL.np_dat, DL.np_own, DL.np_pen, DL.w_tryRaise, DL.chW_cons, DL.w_tryRaise0, DL.ch0_cons, DL.w_parOL, DL.owAt_0, DL.owAt_s, DL.w_pvar, DL.w_name, DL.w_tell, DL.w_appendO, DL.w_mkE, DL.w_mkE0, DL.w_fldX, DL.w_var, DL.w_int, DL.w_bl, DL.w_str, DL.w_non, DL.w_ktup, DL.w_op, DL.w_neg, DL.w_chain, DL.w_nil, DL.w_cons, DL.w_tup, DL.w_lst, DL.w_tst, DL.w_tb, DL.w_not, DL.w_yes, DL.w_and, DL.w_or, DL.w_andV, DL.w_orV, DL.w_notV, DL.w_ite, DL.w_none, DL.w_some, DL.w_sl, DL.w_cb, DL.w_isi, DL.w_isi2, DL.w_call, DL.w_callD, DL.w_callX, DL.w_callG, DL.w_split, DL.w_dget, DL.w_knil, DL.w_kcons, DL.w_dispK, DL.w_seqI, DL.w_rng1, DL.w_rng2, DL.w_enum, DL.w_zip, DL.w_lc, DL.w_borrow, DL.w_up, DL.w_popAt, DL.w_next, DL.w_brk, DL.w_cont, DL.w_seq, DL.w_ret, DL.w_retN, DL.w_asg, DL.w_asgT, DL.w_asgOwn, DL.w_drop, DL.w_ifS, DL.w_append, DL.w_raiseO, DL.w_xf, DL.w_tryAsg, DL.w_mkX, DL.w_fldR, DL.w_fld, DL.w_isC, DL.q_eqO, DL.q_neO, DL.w_tryMk, DL.slfAt_0, DL.slfAt_s, DL.w_asgLend, DL.lendAt_o, DL.lendAt_d, DL.lendAt_s, DL.w_borrowD, DL.w_asgIteL, DL.w_frz, frzAt_0, frzAt_d, frzAt_u, frzAt_s, DL.w_forS, DL.w_par, DL.w_parLE,
  DL.q_int, DL.q_cmp, DL.q_intC, DL.q_addI, DL.q_addS, DL.q_addT, DL.q_addL, DL.q_mulI, DL.q_mulS, DL.q_mulL, DL.q_eq, DL.q_ne, DL.q_isN, DL.q_isB, DL.q_notN, DL.q_inT, DL.q_inL, DL.q_inS, DL.q_ninT, DL.q_ninL, DL.q_ninS, DL.q_ixL, DL.q_ixT, DL.q_ixS, DL.n_len, DL.n_list, DL.n_tuple, DL.n_all, DL.n_any, DL.n_sum, DL.n_sortedS, DL.n_min2, DL.n_max2, DL.n_int1, DL.n_int2, DL.n_int2b, DL.q_neS, DL.q_innE, DL.q_ninE, DL.w_dct0, DL.q_eqS, DL.n_strI, DL.n_repr, DL.g_name, DL.is_name, DL.is_tupG, DL.is_seqG, DL.is_consG, DL.is_nilG, cut_tup, cut_lst,  isi_str, isi_int, isi_bool, isi_tuple, isi_list,
  datAt_0, datAt_s, ownAt_0, ownAt_s, penIs_0, penIs_s, setD_nil, setD_cons, wipeG, List.set_cons_zero, List.set_cons_succ, List.set_nil, List.map_cons, List.map_nil, List.cons_append, List.nil_append,
  D.bl.injEq, D.int.injEq, D.str.injEq, exists_eq_left', exists_eq_left, exists_and_left, exists_eq', exists_eq, true_and, and_true, true_imp_iff, false_imp_iff, Bool.true_eq_false, Bool.false_eq_true, forall_const, Bool.not_true, Bool.not_false, List.length_cons, List.length_nil, eqv_str, eqv_int, ok_int, ok_bl, ok_non, forall_eq, atI_0, atI_1, atI_2, atI_3, List.getElem?_cons_zero, List.getElem?_cons_succ, List.getElem?_nil, Option.some.injEq, Sk.own.injEq, len_tup, len_lst, its_tup, its_lst, itemsOf_tup, itemsOf_lst, itemsOf_str, isS_str, isT_tup, isL_lst, isI_int, isB_bl, builtin_str, builtin_tup, builtin_lst, builtin_int, builtin_bl, builtin_non, D.sign_one, List.all_cons, List.all_nil, Bool.and_true])

abbrev pre_is_whole : List D → Prop
  | [value_, least_, most_] => LV value_ ∧ ∃ lo hi, least_ = .int lo ∧ hiD most_ = some hi
  | _ => False
abbrev post_is_whole : List D → D → Prop
  | [value_, least_, most_], r => ∃ lo hi, least_ = .int lo ∧ hiD most_ = some hi ∧ r = .bl (wholeB lo hi value_)
  | _, _ => False
def u_is_whole (T : Txt K mg a_QUOTING a_BadBody i_BadBody) : WS K L2.E0 := (WS.seq (WS.ifS (WT.or (WT.not (WT.b (WE.isi "int" (WE.var 0)))) (WT.or (WT.b (WE.isi "bool" (WE.var 0))) (WT.tst (WE.op (O2.cmp fun i j => decide (i < j)) (WE.var 0) (WE.var 1)))))
 (WS.ret (WM.up (WE.bl false)))
 WS.next)
 (WS.ret (WM.up (WE.orV (WE.op O2.isU (WE.var 2) WE.non) (WE.op (O2.cmp fun i j => decide (i ≤ j)) (WE.var 0) (WE.var 2))))))
theorem v_is_whole {value_ least_ most_ : D} (T : Txt K mg a_QUOTING a_BadBody i_BadBody) (hp : LV value_ ∧ ∃ lo hi, least_ = .int lo ∧ hiD most_ = some hi) : (u_is_whole T).w noX [.dat value_, .dat least_, .dat most_] (retW fun r => ∃ lo hi, least_ = .int lo ∧ hiD most_ = some hi ∧ r = .bl (wholeB lo hi value_)) := by
  unfold u_is_whole
  walk_at "w"


  obtain ⟨hv, lo, hi, rfl, hm⟩ := hp
  cases value_ with
  | int i =>
    cases most_ with
    | non => cases hm; simp [wholeB, hiD, DL.q_cmp] <;> omega
    | int h => cases hm; simp [wholeB, hiD]; walk_at "w"; simp <;> omega
    | _ => cases hm
  | _ => simp [hv.bi, wholeB, hm]
theorem c_is_whole_1 (X : Defs K mg a_QUOTING a_BadBody i_BadBody) (T : Txt K mg a_QUOTING a_BadBody i_BadBody) : Cal P w K mg base "is_whole" 1 ["value", "least", "most"] [.non] (SpP K pre_is_whole post_is_whole) := by
  refine cal_W (N := N_is_whole) (u_is_whole T) X.d_is_whole_1 sc_is_whole (fun ds h => ?_) (fun f cdv A outer s H E hr ng => ⟨_, (pss_cons (ps_if (PW.pt (pw_or (pt_not (pt_val (pe_callB (call_isik (K := K)) (by rfl) T.b_isinstance (by decide +kernel) (pa_cons (pv 0) (pa_cons (pe_bltn (v := .ty "int") (by rfl) T.b_int (by decide +kernel) rfl) pa_nil))))) (pw_or (pt_val (pe_callB (call_isik (K := K)) (by rfl) T.b_isinstance (by decide +kernel) (pa_cons (pv 0) (pa_cons (pe_bltn (v := .ty "bool") (by rfl) T.b_bool (by decide +kernel) rfl) pa_nil)))) (pw_or1 (pt_cmpR op_lt (pv 0) (pv 1) (nomark _)))))) (pss_one (ps_ret pe_bl)) pss_nil)
 (pss_one (ps_ret (pe_or (pe_cmpR op_isU (pv 2) pe_non (nomark _)) (pe_one (pe_cmpR op_le (pv 0) (pv 2) (nomark _))))))), rfl⟩) rfl fun ds hp => ?_
  · match ds, h with
    | [_, _, _], _ => rfl
  · match ds, hp with
    | [value_, least_, most_], hp => exact w_at (u_is_whole T) (v_is_whole T hp) rfl rfl rfl
abbrev pre_is_made_of : List D → Prop
  | [value_, signs_, most_] => LV value_ ∧ ∃ sg m, signs_ = .str sg ∧ most_ = .int m
  | _ => False
abbrev post_is_made_of : List D → D → Prop
  | [value_, signs_, most_], r => ∃ sg m, signs_ = .str sg ∧ most_ = .int m ∧ r = .bl (madeB sg m value_)
  | _, _ => False
def u_is_made_of (T : Txt K mg a_QUOTING a_BadBody i_BadBody) : WS K L2.E0 := (WS.seq (WS.ifS (WT.or (WT.not (WT.b (WE.isi "str" (WE.var 0)))) (WT.not (WT.tst (WE.chain (fun i j => decide (i ≤ j)) (fun i j => decide (i ≤ j)) (WE.int 1) (WE.cb ON.len (WA.cons (WE.var 0) WA.nil)) (WE.var 2)))))
 (WS.ret (WM.up (WE.bl false)))
 WS.next)
 (WS.ret (WM.up (WE.cb ON.all (WA.cons (WE.lc (WI.seq (WE.var 0)) (WG.name 3) WT.yes (WE.op O2.inn (WE.var 3) (WE.var 1)) 999999) WA.nil)))))
theorem v_is_made_of {value_ signs_ most_ : D} (T : Txt K mg a_QUOTING a_BadBody i_BadBody) (hp : LV value_ ∧ ∃ sg m, signs_ = .str sg ∧ most_ = .int m) : (u_is_made_of T).w noX [.dat value_, .dat signs_, .dat most_, .un] (retW fun r => ∃ sg m, signs_ = .str sg ∧ most_ = .int m ∧ r = .bl (madeB sg m value_)) := by
  unfold u_is_made_of
  walk_at "w"

  obtain ⟨hv, sg, m, rfl, rfl⟩ := hp
  walk_at "w"
  cases value_ with
  | str z =>
    have hz := hv.len z rfl
    simp [hv.sl]
    refine ⟨fun h1 => ⟨fun h2 => ?_, fun h2 => ?_⟩, fun h1 => ?_⟩
    · simp [madeB]; omega
    · refine LcP.map (fun d => .bl (match d.sign with | some k => decide (k ∈ sg.cps.toList) | none => false)) (by simp; omega) (fun d hd => ?_) ?_
      · obtain ⟨k, hk, rfl⟩ := mem_signs hd
        exact ⟨_, rfl, by walk_at "w"⟩
      · walk_at "w"
        have e1 : decide ((1 : Int) ≤ (z.length : Int)) = true := by simpa using h1
        have e2 : decide ((z.length : Int) ≤ m) = true := by simpa using h2
        simp [DL.signs, madeB, e1, e2, Function.comp_def]
    · simp [madeB]; omega
  | _ => simp [hv.bi, madeB]
theorem c_is_made_of (X : Defs K mg a_QUOTING a_BadBody i_BadBody) (T : Txt K mg a_QUOTING a_BadBody i_BadBody) : Cal P w K mg base "is_made_of" 1 ["value", "signs", "most"] [] (SpP K pre_is_made_of post_is_made_of) := by
  refine cal_W (N := N_is_made_of) (u_is_made_of T) X.d_is_made_of sc_is_made_of (fun ds h => ?_) (fun f cdv A outer s H E hr ng => ⟨_, (pss_cons (ps_if (PW.pt (pw_or (pt_not (pt_val (pe_callB (call_isik (K := K)) (by rfl) T.b_isinstance (by decide +kernel) (pa_cons (pv 0) (pa_cons (pe_bltn (v := .ty "str") (by rfl) T.b_str (by decide +kernel) rfl) pa_nil))))) (pw_or1 (pt_not (pt_chain op_le op_le pe_int (pe_callB (call_lenk (K := K)) (by rfl) T.b_len (by decide +kernel) (pa_cons (pv 0) pa_nil)) (pv 2)))))) (pss_one (ps_ret pe_bl)) pss_nil)
 (pss_one (ps_ret (pe_callB (cr_allk (K := K) rfl) (by rfl) T.b_all (by decide +kernel) (pa_cons (pe_lc (own := [("sign", 3)]) (g := (gName 3)) (tt := tYes) (by rfl) sc_is_made_of.nd (pi_seqk (K := K) (pv 0)) (blkOk_by (own := [("sign", 3)]) (N := N_is_made_of) (sc := defScope s_is_made_of) (by decide +kernel)) (fun _ _ _ _ _ => (pg_name (i := 3) sc_is_made_of.nd rfl (Or.inl rfl))) (fun _ _ _ _ _ => pts_nil) (fun _ _ _ _ _ => (pe_cmpR (op_inUk (K := K)) (pv 3) (pv 1) (by rfl)))) pa_nil))))), rfl⟩) rfl fun ds hp => ?_
  · match ds, h with
    | [_, _, _], _ => rfl
  · match ds, hp with
    | [value_, signs_, most_], hp => exact w_at (u_is_made_of T) (v_is_made_of T hp) rfl rfl rfl
abbrev pre_is_name : List D → Prop
  | [value_] => LV value_
  | _ => False
abbrev post_is_name : List D → D → Prop
  | [value_], r => r = .bl (nameB value_)
  | _, _ => False
def u_is_name (T : Txt K mg a_QUOTING a_BadBody i_BadBody) : WS K L2.E0 := (WS.ret (WM.up (WE.andV (WE.call pre_is_made_of post_is_made_of (WA.cons (WE.var 0) (WA.cons (WE.op O2.add (WE.str "abcdefghijklmnopqrstuvwxyz") (WE.str "0123456789")) (WA.cons (WE.int 12) WA.nil)))) (WE.op O2.inn (WE.op O2.ix (WE.var 0) (WE.int 0)) (WE.str "abcdefghijklmnopqrstuvwxyz")))))
theorem v_is_name {value_ : D} (T : Txt K mg a_QUOTING a_BadBody i_BadBody) (hp : LV value_) : (u_is_name T).w noX [.dat value_] (retW fun r => r = .bl (nameB value_)) := by
  unfold u_is_name
  walk_at "w"
  try simp only [pre_is_made_of, post_is_made_of]
  try walk_at "w"
  try simp only [pre_is_made_of, post_is_made_of]
  try walk_at "w"


  refine ⟨by decide, hp, fun h => ?_, fun h => ?_⟩
  · have h' : madeB sLF 12 value_ = true := h
    obtain ⟨z, c, cs, rfl, e, _⟩ := madeB_some h
    have hz := hp.len z rfl
    walk_at "w"
    exact ⟨c, by rw [e]; rfl, by omega, by simp only [nameB, h', headB, e, Bool.true_and]⟩
  · have h' : madeB sLF 12 value_ = false := h
    simp only [nameB, h', Bool.false_and]
theorem c_is_name (X : Defs K mg a_QUOTING a_BadBody i_BadBody) (T : Txt K mg a_QUOTING a_BadBody i_BadBody) : Cal P w K mg base "is_name" 2 ["value"] [] (SpP K pre_is_name post_is_name) := by
  have c_is_made_of := c_is_made_of (P := P) (w := w) (base := base) X T
  refine cal_W (N := N_is_name) (u_is_name T) X.d_is_name sc_is_name (fun ds h => ?_) (fun f cdv A outer s H E hr ng => ⟨_, (pss_one (ps_ret (pe_and (peg_cal c_is_made_of hr (by decide) ng rfl (pa_cons (pv 0) (pa_cons (pe_op (op_addUk (K := K)) (pe_globE rfl T.g_LETTERS) (pe_globE rfl T.g_FIGURES)) (pa_cons (pe_globE rfl T.g_LONGEST_WORD) pa_nil)))) (pe_one (pe_cmpR (op_inUk (K := K)) (pe_ix (ix_seqk (K := K)) (pv 0) pe_int (fun _ _ => rfl)) (pe_globE rfl T.g_LETTERS) (by rfl)))))), rfl⟩) rfl fun ds hp => ?_
  · match ds, h with
    | [_], _ => rfl
  · match ds, hp with
    | [value_], hp => exact w_at (u_is_name T) (v_is_name T hp) rfl rfl rfl
abbrev pre_is_word : List D → Prop
  | [value_] => LV value_
  | _ => False
abbrev post_is_word : List D → D → Prop
  | [value_], r => r = .bl (wordB value_)
  | _, _ => False
def u_is_word (T : Txt K mg a_QUOTING a_BadBody i_BadBody) : WS K L2.E0 := (WS.ret (WM.up (WE.andV (WE.call pre_is_made_of post_is_made_of (WA.cons (WE.var 0) (WA.cons (WE.op O2.add (WE.str "abcdefghijklmnopqrstuvwxyz") (WE.str "0123456789")) (WA.cons (WE.int 12) WA.nil)))) (WE.op O2.nin (WE.var 0) (WE.ktup [(.str "see"), (.str "copy")] T.t_QUOTING (fun _ => (.cons (.str _) (.cons (.str _) .nil))))))))
theorem v_is_word {value_ : D} (T : Txt K mg a_QUOTING a_BadBody i_BadBody) (hp : LV value_) : (u_is_word T).w noX [.dat value_] (retW fun r => r = .bl (wordB value_)) := by
  unfold u_is_word
  walk_at "w"
  try simp only [pre_is_made_of, post_is_made_of]
  try walk_at "w"
  try simp only [pre_is_made_of, post_is_made_of]
  try walk_at "w"


  refine ⟨by decide, hp, fun h => ?_, fun h => ?_⟩
  · have h' : madeB sLF 12 value_ = true := h
    obtain ⟨z, c, cs, rfl, e, _⟩ := madeB_some h
    refine ⟨rfl, rfl, ?_⟩
    simp only [wordB, h', quotB, Bool.true_and, inD, inV, D.v, eqV, List.map, List.any, Bool.or_false, strs_or]
  · have h' : madeB sLF 12 value_ = false := h
    simp only [wordB, h', Bool.false_and]
theorem c_is_word (X : Defs K mg a_QUOTING a_BadBody i_BadBody) (T : Txt K mg a_QUOTING a_BadBody i_BadBody) : Cal P w K mg base "is_word" 2 ["value"] [] (SpP K pre_is_word post_is_word) := by
  have c_is_made_of := c_is_made_of (P := P) (w := w) (base := base) X T
  refine cal_W (N := N_is_word) (u_is_word T) X.d_is_word sc_is_word (fun ds h => ?_) (fun f cdv A outer s H E hr ng => ⟨_, (pss_one (ps_ret (pe_and (peg_cal c_is_made_of hr (by decide) ng rfl (pa_cons (pv 0) (pa_cons (pe_op (op_addUk (K := K)) (pe_globE rfl T.g_LETTERS) (pe_globE rfl T.g_FIGURES)) (pa_cons (pe_globE rfl T.g_LONGEST_WORD) pa_nil)))) (pe_one (pe_cmpR (op_ninUk (K := K)) (pv 0) (pe_globE rfl T.g_QUOTING) (by rfl)))))), rfl⟩) rfl fun ds hp => ?_
  · match ds, h with
    | [_], _ => rfl
  · match ds, hp with
    | [value_], hp => exact w_at (u_is_word T) (v_is_word T hp) rfl rfl rfl
abbrev pre_is_quoted : List D → Prop
  | [parts_] => prQ parts_
  | _ => False
abbrev post_is_quoted : List D → D → Prop
  | [parts_], r => r = .bl (quB parts_)
  | _, _ => False
def u_is_quoted (T : Txt K mg a_QUOTING a_BadBody i_BadBody) : WS K L2.E0 := (WS.ret (WM.up (WE.andV (WE.call pre_is_name post_is_name (WA.cons (WE.op O2.ix (WE.var 0) (WE.int 0)) WA.nil)) (WE.call pre_is_name post_is_name (WA.cons (WE.op O2.ix (WE.var 0) (WE.int 1)) WA.nil)))))
theorem v_is_quoted {parts_ : D} (T : Txt K mg a_QUOTING a_BadBody i_BadBody) (hp : prQ parts_) : (u_is_quoted T).w noX [.dat parts_] (retW fun r => r = .bl (quB parts_)) := by
  unfold u_is_quoted
  walk_at "w"
  try simp only [pre_is_name, post_is_name]
  try walk_at "w"
  try simp only [pre_is_name, post_is_name]
  try walk_at "w"


  match parts_, hp with
  | .tup [a, b], hp =>
    walk_at "w"
    exact ⟨hp.1, fun h => ⟨hp.2, by simp [quB, h]⟩, fun h => by simp [quB, h]⟩
theorem c_is_quoted (X : Defs K mg a_QUOTING a_BadBody i_BadBody) (T : Txt K mg a_QUOTING a_BadBody i_BadBody) : Cal P w K mg base "is_quoted" 3 ["parts"] [] (SpP K pre_is_quoted post_is_quoted) := by
  have c_is_name := c_is_name (P := P) (w := w) (base := base) X T
  refine cal_W (N := N_is_quoted) (u_is_quoted T) X.d_is_quoted sc_is_quoted (fun ds h => ?_) (fun f cdv A outer s H E hr ng => ⟨_, (pss_one (ps_ret (pe_and (peg_cal c_is_name hr (by decide) ng rfl (pa_cons (pe_ix (ix_seqk (K := K)) (pv 0) pe_int (fun _ _ => rfl)) pa_nil)) (pe_one (peg_cal c_is_name hr (by decide) ng rfl (pa_cons (pe_ix (ix_seqk (K := K)) (pv 0) pe_int (fun _ _ => rfl)) pa_nil)))))), rfl⟩) rfl fun ds hp => ?_
  · match ds, h with
    | [_], _ => rfl
  · match ds, hp with
    | [parts_], hp => exact w_at (u_is_quoted T) (v_is_quoted T hp) rfl rfl rfl
def BVp (x : D) : Prop := GV x ∨ x = .dct [] []
def BVb (d : D) : Prop := BVp d ∨ ∃ ds, d.its = some ds ∧ ∀ x ∈ ds, BVp x
theorem BVp.bi {d : D} (h : BVp d) : d.builtin = true := by
  rcases h with h | rfl
  · exact h.bi
  · rfl
theorem BVb.bi {d : D} (h : BVb d) : d.builtin = true := by
  rcases h with h | ⟨ds, e, _⟩
  · exact h.bi
  · cases d <;> first | rfl | cases e
theorem BVb.it {ds : List D} (h : BVb (.tup ds)) : ∀ x ∈ ds, BVp x := by
  rcases h with (h | h) | ⟨es, e, h⟩
  · exact fun x hx => .inl (h.it x hx)
  · cases h
  · cases e; exact h
abbrev pre_is_piece : List D → Prop
  | [value_] => BVp value_
  | _ => False
abbrev post_is_piece : List D → D → Prop
  | [value_], r => r = .bl (pieceB value_)
  | _, _ => False
def u_is_piece (T : Txt K mg a_QUOTING a_BadBody i_BadBody) : WS K L2.E0 := (WS.seq (WS.ifS (WT.or (WT.not (WT.b (WE.isi "tuple" (WE.var 0)))) (WT.or (WT.tst (WE.op (O2.cmp fun i j => decide (i < j)) (WE.cb ON.len (WA.cons (WE.var 0) WA.nil)) (WE.int 2))) (WT.not (WT.b (WE.isi "str" (WE.op O2.ix (WE.var 0) (WE.int 0)))))))
 (WS.ret (WM.up (WE.bl false)))
 WS.next)
 (WS.seq (WS.ifS (WT.tst (WE.op O2.eq (WE.op O2.ix (WE.var 0) (WE.int 0)) (WE.str "word")))
 (WS.ret (WM.up (WE.andV (WE.op O2.eq (WE.cb ON.len (WA.cons (WE.var 0) WA.nil)) (WE.int 2)) (WE.call pre_is_word post_is_word (WA.cons (WE.op O2.ix (WE.var 0) (WE.int 1)) WA.nil)))))
 WS.next)
 (WS.seq (WS.ifS (WT.tst (WE.op O2.eq (WE.op O2.ix (WE.var 0) (WE.int 0)) (WE.str "see")))
 (WS.ret (WM.up (WE.andV (WE.op O2.eq (WE.cb ON.len (WA.cons (WE.var 0) WA.nil)) (WE.int 3)) (WE.call pre_is_quoted post_is_quoted (WA.cons (WE.sl (WE.var 0) (WO.some (WE.int 1)) WO.none) WA.nil)))))
 WS.next)
 (WS.ret (WM.up (WE.andV (WE.op O2.eq (WE.op O2.ix (WE.var 0) (WE.int 0)) (WE.str "copy")) (WE.andV (WE.op O2.eq (WE.cb ON.len (WA.cons (WE.var 0) WA.nil)) (WE.int 4)) (WE.andV (WE.call pre_is_quoted post_is_quoted (WA.cons (WE.sl (WE.var 0) (WO.some (WE.int 1)) (WO.some (WE.int 3))) WA.nil)) (WE.callD (des := [.non]) pre_is_whole post_is_whole (fun _ => (.cons .non .nil)) (WA.cons (WE.op O2.ix (WE.var 0) (WE.int 3)) (WA.cons (WE.int 1) WA.nil)))))))))))
theorem v_is_piece {value_ : D} (T : Txt K mg a_QUOTING a_BadBody i_BadBody) (hp : BVp value_) : (u_is_piece T).w noX [.dat value_] (retW fun r => r = .bl (pieceB value_)) := by
  unfold u_is_piece
  walk_at "w"
  try simp only [pre_is_quoted, post_is_quoted, pre_is_whole, post_is_whole, pre_is_word, post_is_word]
  try walk_at "w"
  try simp only [pre_is_quoted, post_is_quoted, pre_is_whole, post_is_whole, pre_is_word, post_is_word]
  try walk_at "w"

  rcases hp with hp | rfl
  rotate_left
  · simp [pieceB]
  cases value_ with
  | tup ds =>
    have hg := hp.it
    cases ds with
    | nil => simp [pieceB]
    | cons a ds =>
      cases a with
      | str wd =>
        have ha : (D.str wd).ok = true := (hg _ List.mem_cons_self).ok
        have hs : (D.tup (D.str wd :: ds)).seq = true := rfl
        have o1 : (D.str "word").ok = true := by decide +kernel
        have o2 : (D.str "see").ok = true := by decide +kernel
        have o3 : (D.str "copy").ok = true := by decide +kernel
        walk_at "w"
        simp only [ha, hs, o1, o2, o3, true_and]
        rcases ds with _ | ⟨b, _ | ⟨c, _ | ⟨d, _ | ⟨e, l⟩⟩⟩⟩
        · simp [pieceB, pieceT]
        · have hb := LV.of (hg b (by simp))
          by_cases h1 : wd = "word"
          · simp [pieceB, pieceT, h1, hb]
          · simp [pieceB, pieceT, h1]
        · have hb := LV.of (hg b (by simp))
          have hc := LV.of (hg c (by simp))
          by_cases h1 : wd = "see"
          · subst h1; simp [pieceB, pieceT, hb, hc, ne_1, prQ, quB]
          · simp [pieceB, pieceT, h1]
        · have hb := LV.of (hg b (by simp))
          have hc := LV.of (hg c (by simp))
          have hd := LV.of (hg d (by simp))
          by_cases h1 : wd = "copy"
          · subst h1; simp [pieceB, pieceT, hb, hc, hd, hiD, ne_2, ne_3, prQ, quB]; cases h1 : nameB b <;> cases h2 : nameB c <;> simp_all
          · simp [pieceB, pieceT, h1]
        · have e2 : ¬ ((l.length : Int) + 1 + 1 + 1 + 1 + 1 = 2) := by omega
          have e3 : ¬ ((l.length : Int) + 1 + 1 + 1 + 1 + 1 = 3) := by omega
          have e4 : ¬ ((l.length : Int) + 1 + 1 + 1 + 1 + 1 = 4) := by omega
          simp [pieceB, pieceT, e2, e3, e4]
      | _ => simp [pieceB, (hg _ List.mem_cons_self).bi]; (try walk_at "w"); (try simp [(hg _ List.mem_cons_self).bi])
  | _ => simp [hp.bi, pieceB]
theorem c_is_piece (X : Defs K mg a_QUOTING a_BadBody i_BadBody) (T : Txt K mg a_QUOTING a_BadBody i_BadBody) : Cal P w K mg base "is_piece" 4 ["value"] [] (SpP K pre_is_piece post_is_piece) := by
  have c_is_quoted := c_is_quoted (P := P) (w := w) (base := base) X T
  have c_is_whole_1 := c_is_whole_1 (P := P) (w := w) (base := base) X T
  have c_is_word := c_is_word (P := P) (w := w) (base := base) X T
  refine cal_W (N := N_is_piece) (u_is_piece T) X.d_is_piece sc_is_piece (fun ds h => ?_) (fun f cdv A outer s H E hr ng => ⟨_, (pss_cons (ps_if (PW.pt (pw_or (pt_not (pt_val (pe_callB (call_isik (K := K)) (by rfl) T.b_isinstance (by decide +kernel) (pa_cons (pv 0) (pa_cons (pe_bltn (v := .ty "tuple") (by rfl) T.b_tuple (by decide +kernel) rfl) pa_nil))))) (pw_or (pt_cmpR op_lt (pe_callB (call_lenk (K := K)) (by rfl) T.b_len (by decide +kernel) (pa_cons (pv 0) pa_nil)) pe_int (nomark _)) (pw_or1 (pt_not (pt_val (pe_callB (call_isik (K := K)) (by rfl) T.b_isinstance (by decide +kernel) (pa_cons (pe_ix (ix_seqk (K := K)) (pv 0) pe_int (fun _ _ => rfl)) (pa_cons (pe_bltn (v := .ty "str") (by rfl) T.b_str (by decide +kernel) rfl) pa_nil))))))))) (pss_one (ps_ret pe_bl)) pss_nil)
 (pss_cons (ps_if (pt_cmpR (op_eqDk (K := K) (Room.units hr)) (pe_ix (ix_seqk (K := K)) (pv 0) pe_int (fun _ _ => rfl)) pe_str (nomark _)) (pss_one (ps_ret (pe_and (pe_cmpR (op_eqDk (K := K) (Room.units hr)) (pe_callB (call_lenk (K := K)) (by rfl) T.b_len (by decide +kernel) (pa_cons (pv 0) pa_nil)) pe_int (nomark _)) (pe_one (peg_cal c_is_word hr (by decide) ng rfl (pa_cons (pe_ix (ix_seqk (K := K)) (pv 0) pe_int (fun _ _ => rfl)) pa_nil)))))) pss_nil)
 (pss_cons (ps_if (pt_cmpR (op_eqDk (K := K) (Room.units hr)) (pe_ix (ix_seqk (K := K)) (pv 0) pe_int (fun _ _ => rfl)) pe_str (nomark _)) (pss_one (ps_ret (pe_and (pe_cmpR (op_eqDk (K := K) (Room.units hr)) (pe_callB (call_lenk (K := K)) (by rfl) T.b_len (by decide +kernel) (pa_cons (pv 0) pa_nil)) pe_int (nomark _)) (pe_one (peg_cal c_is_quoted hr (by decide) ng rfl (pa_cons (pe_slice (sl_Uk (K := K)) (pv 0) (po_some pe_int) po_none) pa_nil)))))) pss_nil)
 (pss_one (ps_ret (pe_and (pe_cmpR (op_eqDk (K := K) (Room.units hr)) (pe_ix (ix_seqk (K := K)) (pv 0) pe_int (fun _ _ => rfl)) pe_str (nomark _)) (pe_and (pe_cmpR (op_eqDk (K := K) (Room.units hr)) (pe_callB (call_lenk (K := K)) (by rfl) T.b_len (by decide +kernel) (pa_cons (pv 0) pa_nil)) pe_int (nomark _)) (pe_and (peg_cal c_is_quoted hr (by decide) ng rfl (pa_cons (pe_slice (sl_Uk (K := K)) (pv 0) (po_some pe_int) (po_some pe_int)) pa_nil)) (pe_one (peg_cal c_is_whole_1 hr (by decide) ng rfl (pa_cons (pe_ix (ix_seqk (K := K)) (pv 0) pe_int (fun _ _ => rfl)) (pa_cons pe_int pa_nil)))))))))))), rfl⟩) rfl fun ds hp => ?_
  · match ds, h with
    | [_], _ => rfl
  · match ds, hp with
    | [value_], hp => exact w_at (u_is_piece T) (v_is_piece T hp) rfl rfl rfl
abbrev pre_is_body : List D → Prop
  | [value_] => BVb value_
  | _ => False
abbrev post_is_body : List D → D → Prop
  | [value_], r => r = .bl (bodyB value_)
  | _, _ => False
def u_is_body (T : Txt K mg a_QUOTING a_BadBody i_BadBody) : WS K L2.E0 := (WS.ret (WM.up (WE.andV (WE.isi "tuple" (WE.var 0)) (WE.andV (WE.op (O2.cmp fun i j => decide (i ≤ j)) (WE.cb ON.len (WA.cons (WE.var 0) WA.nil)) (WE.int 20)) (WE.cb ON.all (WA.cons (WE.lc (WI.seq (WE.var 0)) (WG.name 1) WT.yes (WE.call pre_is_piece post_is_piece (WA.cons (WE.var 1) WA.nil)) 999999) WA.nil))))))
theorem v_is_body {value_ : D} (T : Txt K mg a_QUOTING a_BadBody i_BadBody) (hp : BVb value_) : (u_is_body T).w noX [.dat value_, .un] (retW fun r => r = .bl (bodyB value_)) := by
  unfold u_is_body
  walk_at "w"
  try simp only [pre_is_piece, post_is_piece]
  try walk_at "w"
  try simp only [pre_is_piece, post_is_piece]
  try walk_at "w"


  cases value_ with
  | tup ds =>
    have hg := hp.it
    simp only [builtin_tup, isT_tup, true_and, true_imp_iff, Bool.true_eq_false, false_imp_iff, and_true, len_tup, Option.some.injEq, exists_eq_left', itemsOf_tup]
    refine ⟨fun h => ?_, fun h => ?_⟩
    · have h' : ds.length ≤ 20 := by have := of_decide_eq_true h; omega
      refine LcP.map (fun d => .bl (pieceB d)) (by omega) (fun d hd => ?_) ?_
      · refine ⟨_, rfl, ?_⟩
        walk_at "w"
        exact hg d hd
      · walk_at "w"
        simp [bodyB, h', Function.comp_def]
    · have h' : ¬ ds.length ≤ 20 := by have := of_decide_eq_false h; omega
      simp [bodyB, h']
  | _ => simp [hp.bi, bodyB]
theorem c_is_body (X : Defs K mg a_QUOTING a_BadBody i_BadBody) (T : Txt K mg a_QUOTING a_BadBody i_BadBody) : Cal P w K mg base "is_body" 5 ["value"] [] (SpP K pre_is_body post_is_body) := by
  have c_is_piece := c_is_piece (P := P) (w := w) (base := base) X T
  refine cal_W (N := N_is_body) (u_is_body T) X.d_is_body sc_is_body (fun ds h => ?_) (fun f cdv A outer s H E hr ng => ⟨_, (pss_one (ps_ret (pe_and (pe_callB (call_isik (K := K)) (by rfl) T.b_isinstance (by decide +kernel) (pa_cons (pv 0) (pa_cons (pe_bltn (v := .ty "tuple") (by rfl) T.b_tuple (by decide +kernel) rfl) pa_nil))) (pe_and (pe_cmpR op_le (pe_callB (call_lenk (K := K)) (by rfl) T.b_len (by decide +kernel) (pa_cons (pv 0) pa_nil)) (pe_globE rfl T.g_MOST_PIECES) (nomark _)) (pe_one (pe_callB (cr_allk (K := K) rfl) (by rfl) T.b_all (by decide +kernel) (pa_cons (pe_lc (own := [("piece", 1)]) (g := (gName 1)) (tt := tYes) (by rfl) sc_is_body.nd (pi_seqk (K := K) (pv 0)) (blkOk_by (own := [("piece", 1)]) (N := N_is_body) (sc := defScope s_is_body) (by decide +kernel)) (fun _ _ _ _ _ => (pg_name (i := 1) sc_is_body.nd rfl (Or.inl rfl))) (fun _ _ _ _ _ => pts_nil) (fun _ _ _ _ _ => (peg_cal c_is_piece hr (by decide) ng rfl (pa_cons (pv 1) pa_nil)))) pa_nil))))))), rfl⟩) rfl fun ds hp => ?_
  · match ds, h with
    | [_], _ => rfl
  · match ds, hp with
    | [value_], hp => exact w_at (u_is_body T) (v_is_body T hp) rfl rfl rfl
theorem o_BadBody (X : Defs K mg a_QUOTING a_BadBody i_BadBody) (T : Txt K mg a_QUOTING a_BadBody i_BadBody) : OwnI P w K mg base "BadBody" a_BadBody i_BadBody ["body"] 1 := by
  obtain ⟨fd, F, b⟩ := X.e_BadBody
  exact ⟨T.x_BadBody, fd, _, init1_fn F sc_BadBody___init__ rfl rfl (fun cdv A outer s H E => pss_one (ps_ost (pv 0) (pv 1))), b⟩
abbrev pre_ascending : List D → Prop
  | [names_] => ∃ kss : List (List Key), names_.its = some (kss.map tupD) ∧ kss.length < 64 ∧ UniT kss
  | _ => False
abbrev post_ascending : List D → D → Prop
  | [names_], r => ∃ kss : List (List Key), names_.its = some (kss.map tupD) ∧ r = .tup ((ascT kss).map tupD)
  | _, _ => False
def u_ascending (T : Txt K mg a_QUOTING a_BadBody i_BadBody) : WS K L2.E0 := (WS.ret (WM.up (WE.cb ON.tuple (WA.cons (WE.sset (WE.var 0)) WA.nil))))
theorem v_ascending {names_ : D} (T : Txt K mg a_QUOTING a_BadBody i_BadBody) (hp : ∃ kss : List (List Key), names_.its = some (kss.map tupD) ∧ kss.length < 64 ∧ UniT kss) : (u_ascending T).w noX [.dat names_] (retW fun r => ∃ kss : List (List Key), names_.its = some (kss.map tupD) ∧ r = .tup ((ascT kss).map tupD)) := by
  unfold u_ascending
  walk_at "w"

  obtain ⟨kss, e, l, u⟩ := hp
  exact ⟨_, e, .inr ⟨kss, rfl, l, u.1, u.2, _, rfl, kss, e, rfl⟩⟩
theorem c_ascending (X : Defs K mg a_QUOTING a_BadBody i_BadBody) (T : Txt K mg a_QUOTING a_BadBody i_BadBody) : Cal P w K mg base "ascending" 1 ["names"] [] (SpP K pre_ascending post_ascending) := by
  refine cal_W (N := N_ascending) (u_ascending T) X.d_ascending sc_ascending (fun ds h => ?_) (fun f cdv A outer s H E hr ng => ⟨_, (pss_one (ps_ret (pe_callTy (call_tuple_ofk (K := K)) (by rfl) T.b_tuple (by decide +kernel) (pa_cons (pe_sset rfl (Room.units hr) (by rfl) T.b_sorted (by rfl) T.b_set (pv 0)) pa_nil)))), rfl⟩) rfl fun ds hp => ?_
  · match ds, h with
    | [_], _ => rfl
  · match ds, hp with
    | [names_], hp => exact w_at (u_ascending T) (v_ascending T hp) rfl rfl rfl
abbrev pre_need_body : List D → Prop
  | [body_] => BVb body_
  | _ => False
abbrev post_need_body : List D → D → Prop
  | [body_], r => bodyB body_ = true ∧ r = .non
  | _, _ => False
abbrev exc_need_body (a_QUOTING a_BadBody i_BadBody : Addr) : List D → Xq
  | [body_] => fun C fs => bodyB body_ = false ∧ C = a_BadBody ∧ fs = [(("body" : Str), body_)]
  | _ => noX
def u_need_body (T : Txt K mg a_QUOTING a_BadBody i_BadBody) (E : XK) : WS K E := (WS.ifS (WT.not (WT.b (WE.call pre_is_body post_is_body (WA.cons (WE.var 0) WA.nil))))
 (WS.raiseO a_BadBody ["body"] (WA.cons (WE.var 0) WA.nil) T.x_BadBody.ox T.x_BadBody.no)
 WS.next)
theorem v_need_body {body_ : D} (T : Txt K mg a_QUOTING a_BadBody i_BadBody) (E : XK) (hp : BVb body_) : (u_need_body T E).w (exc_need_body a_QUOTING a_BadBody i_BadBody [body_]) [.dat body_] (retW fun r => bodyB body_ = true ∧ r = .non) := by
  unfold u_need_body
  walk_at "w"
  try simp only [pre_is_body, post_is_body]
  try walk_at "w"
  try simp only [pre_is_body, post_is_body]
  try walk_at "w"

  refine ⟨hp, fun h => ⟨by decide, by simpa using h, rfl, rfl⟩, fun h => by simpa using h⟩
theorem c_need_body (X : Defs K mg a_QUOTING a_BadBody i_BadBody) (T : Txt K mg a_QUOTING a_BadBody i_BadBody) : CalX P w K mg base "need_body" 6 ["body"] [] (SpX K pre_need_body post_need_body (exc_need_body a_QUOTING a_BadBody i_BadBody)) := by
  have c_is_body := c_is_body (P := P) (w := w) (base := base) X T
  have o_BadBody := o_BadBody (P := P) (w := w) (base := base) X T
  refine cal_WX (N := N_need_body) (u_need_body T) X.d_need_body sc_need_body (fun ds h => ?_) (fun f cdv A outer s H E hr ng => ⟨_, (pss_one (ps_if (pt_not (pt_val (peg_cal c_is_body hr (by decide) ng rfl (pa_cons (pv 0) pa_nil)))) (pss_one (ps_raiseO o_BadBody hr (by decide) rfl (takes_of rfl rfl rfl rfl) rfl (pa_cons (pv 0) pa_nil))) pss_nil)), rfl⟩) (fun _ => rfl) fun E ds hp => ?_
  · match ds, h with
    | [_], _ => rfl
  · match ds, hp with
    | [body_], hp => exact w_at (u_need_body T E) (v_need_body T E hp) rfl rfl rfl
abbrev pre_words_of : List D → Prop
  | [body_] => BVb body_
  | _ => False
abbrev post_words_of : List D → D → Prop
  | [body_], r => bodyB body_ = true ∧ r = wordsD body_
  | _, _ => False
abbrev exc_words_of (a_QUOTING a_BadBody i_BadBody : Addr) : List D → Xq
  | [body_] => fun C fs => bodyB body_ = false ∧ C = a_BadBody ∧ fs = [(("body" : Str), body_)]
  | _ => noX
def u_words_of (T : Txt K mg a_QUOTING a_BadBody i_BadBody) (E : XK) : WS K E := (WS.seq (WS.drop (WM.up (WE.callX pre_need_body post_need_body (exc_need_body a_QUOTING a_BadBody i_BadBody) (WA.cons (WE.var 0) WA.nil))))
 (WS.ret (WM.up (WE.cb ON.tuple (WA.cons (WE.lc (WI.seq (WE.var 0)) (WG.name 1) (WT.tst (WE.op O2.eq (WE.op O2.ix (WE.var 1) (WE.int 0)) (WE.str "word"))) (WE.op O2.ix (WE.var 1) (WE.int 1)) 999999) WA.nil)))))
theorem v_words_of {body_ : D} (T : Txt K mg a_QUOTING a_BadBody i_BadBody) (E : XK) (hp : BVb body_) : (u_words_of T E).w (exc_words_of a_QUOTING a_BadBody i_BadBody [body_]) [.dat body_, .un] (retW fun r => bodyB body_ = true ∧ r = wordsD body_) := by
  unfold u_words_of
  walk_at "w"
  try simp only [pre_need_body, post_need_body]
  try walk_at "w"
  try simp only [pre_need_body, post_need_body]
  try walk_at "w"

  refine ⟨hp, fun d h => ?_, fun C fs h => h⟩
  obtain ⟨hb, _⟩ := h
  obtain ⟨ds, rfl, hl, hr⟩ := body_view hb
  refine ⟨ds, rfl, LcP.filt (headIs "word") secD (by omega) (fun x hx => ⟨_, rfl, ?_, fun hy => ?_⟩) ⟨_, rfl, hb, rfl⟩⟩
  · rcases piece_view (hr x hx) with ⟨z, rfl⟩ | ⟨a, b, rfl⟩ | ⟨a, b, n, rfl⟩ <;> (walk_at "w"; exact ⟨ok_w _ (by simp), ok_w _ (by simp), by simp [headIs]⟩)
  · rcases piece_view (hr x hx) with ⟨z, rfl⟩ | ⟨a, b, rfl⟩ | ⟨a, b, n, rfl⟩ <;> (walk_at "w"; rfl)
theorem c_words_of (X : Defs K mg a_QUOTING a_BadBody i_BadBody) (T : Txt K mg a_QUOTING a_BadBody i_BadBody) : CalX P w K mg base "words_of" 7 ["body"] [] (SpX K pre_words_of post_words_of (exc_words_of a_QUOTING a_BadBody i_BadBody)) := by
  have c_need_body := c_need_body (P := P) (w := w) (base := base) X T
  have o_BadBody := o_BadBody (P := P) (w := w) (base := base) X T
  refine cal_WX (N := N_words_of) (u_words_of T) X.d_words_of sc_words_of (fun ds h => ?_) (fun f cdv A outer s H E hr ng => ⟨_, (pss_cons (ps_expr (peg_calX c_need_body hr (by decide) ng rfl (takes_of rfl rfl rfl rfl) (pa_cons (pv 0) pa_nil)))
 (pss_one (ps_ret (pe_callTy (call_tuple_ofk (K := K)) (by rfl) T.b_tuple (by decide +kernel) (pa_cons (pe_lc (own := [("piece", 1)]) (g := (gName 1)) (by rfl) sc_words_of.nd (pi_seqk (K := K) (pv 0)) (blkOk_by (own := [("piece", 1)]) (N := N_words_of) (sc := defScope s_words_of) (by decide +kernel)) (fun _ _ _ _ _ => (pg_name (i := 1) sc_words_of.nd rfl (Or.inl rfl))) (fun _ _ _ _ _ => (pts_one (pt_cmpR (op_eqDk (K := K) (Room.units hr)) (pe_ix (ix_seqk (K := K)) (pv 1) pe_int (fun _ _ => rfl)) pe_str (nomark _)))) (fun _ _ _ _ _ => (pe_ix (ix_seqk (K := K)) (pv 1) pe_int (fun _ _ => rfl)))) pa_nil))))), rfl⟩) (fun _ => rfl) fun E ds hp => ?_
  · match ds, h with
    | [_], _ => rfl
  · match ds, hp with
    | [body_], hp => exact w_at (u_words_of T E) (v_words_of T E hp) rfl rfl rfl
abbrev pre_quotes_of : List D → Prop
  | [body_] => BVb body_
  | _ => False
abbrev post_quotes_of : List D → D → Prop
  | [body_], r => bodyB body_ = true ∧ r = quotesD body_
  | _, _ => False
abbrev exc_quotes_of (a_QUOTING a_BadBody i_BadBody : Addr) : List D → Xq
  | [body_] => fun C fs => bodyB body_ = false ∧ C = a_BadBody ∧ fs = [(("body" : Str), body_)]
  | _ => noX
def u_quotes_of (T : Txt K mg a_QUOTING a_BadBody i_BadBody) (E : XK) : WS K E := (WS.seq (WS.drop (WM.up (WE.callX pre_need_body post_need_body (exc_need_body a_QUOTING a_BadBody i_BadBody) (WA.cons (WE.var 0) WA.nil))))
 (WS.ret (WM.up (WE.call pre_ascending post_ascending (WA.cons (WE.lc (WI.seq (WE.var 0)) (WG.name 1) (WT.tst (WE.op O2.eq (WE.op O2.ix (WE.var 1) (WE.int 0)) (WE.str "see"))) (WE.sl (WE.var 1) (WO.some (WE.int 1)) WO.none) 999999) WA.nil)))))
theorem v_quotes_of {body_ : D} (T : Txt K mg a_QUOTING a_BadBody i_BadBody) (E : XK) (hp : BVb body_) : (u_quotes_of T E).w (exc_quotes_of a_QUOTING a_BadBody i_BadBody [body_]) [.dat body_, .un] (retW fun r => bodyB body_ = true ∧ r = quotesD body_) := by
  unfold u_quotes_of
  walk_at "w"
  try simp only [pre_need_body, post_need_body, pre_ascending, post_ascending]
  try walk_at "w"
  try simp only [pre_need_body, post_need_body, pre_ascending, post_ascending]
  try walk_at "w"

  refine ⟨hp, fun d h => ?_, fun C fs h => h⟩
  obtain ⟨hb, _⟩ := h
  obtain ⟨ds, rfl, hl, hr⟩ := body_view hb
  refine ⟨ds, rfl, LcP.filt (headIs "see") restD (by omega) (fun x hx => ⟨_, rfl, ?_, fun hy => ?_⟩) ?_⟩
  · rcases piece_view (hr x hx) with ⟨z, rfl⟩ | ⟨a, b, rfl⟩ | ⟨a, b, n, rfl⟩ <;> (walk_at "w"; exact ⟨ok_w _ (by simp), ok_w _ (by simp), by simp [headIs]⟩)
  · rcases piece_view (hr x hx) with ⟨z, rfl⟩ | ⟨a, b, rfl⟩ | ⟨a, b, n, rfl⟩ <;> (walk_at "w"; exact ⟨rfl, rfl⟩)
  · rw [sees_eq hr]
    refine ⟨⟨_, rfl, Nat.lt_of_le_of_lt (len_sees ds) (by omega), uni_sees (sees_shape hr)⟩, fun d1 h1 => ⟨hb, ?_⟩⟩
    obtain ⟨kss, e, rfl⟩ := h1
    have e' : seesK ds = kss := tupD_inj (by simpa using e)
    rw [← e']
    rfl
theorem c_quotes_of (X : Defs K mg a_QUOTING a_BadBody i_BadBody) (T : Txt K mg a_QUOTING a_BadBody i_BadBody) : CalX P w K mg base "quotes_of" 7 ["body"] [] (SpX K pre_quotes_of post_quotes_of (exc_quotes_of a_QUOTING a_BadBody i_BadBody)) := by
  have c_need_body := c_need_body (P := P) (w := w) (base := base) X T
  have c_ascending := c_ascending (P := P) (w := w) (base := base) X T
  have o_BadBody := o_BadBody (P := P) (w := w) (base := base) X T
  refine cal_WX (N := N_quotes_of) (u_quotes_of T) X.d_quotes_of sc_quotes_of (fun ds h => ?_) (fun f cdv A outer s H E hr ng => ⟨_, (pss_cons (ps_expr (peg_calX c_need_body hr (by decide) ng rfl (takes_of rfl rfl rfl rfl) (pa_cons (pv 0) pa_nil)))
 (pss_one (ps_ret (peg_cal c_ascending hr (by decide) ng rfl (pa_cons (pe_lc (own := [("piece", 1)]) (g := (gName 1)) (by rfl) sc_quotes_of.nd (pi_seqk (K := K) (pv 0)) (blkOk_by (own := [("piece", 1)]) (N := N_quotes_of) (sc := defScope s_quotes_of) (by decide +kernel)) (fun _ _ _ _ _ => (pg_name (i := 1) sc_quotes_of.nd rfl (Or.inl rfl))) (fun _ _ _ _ _ => (pts_one (pt_cmpR (op_eqDk (K := K) (Room.units hr)) (pe_ix (ix_seqk (K := K)) (pv 1) pe_int (fun _ _ => rfl)) pe_str (nomark _)))) (fun _ _ _ _ _ => (pe_slice (sl_Uk (K := K)) (pv 1) (po_some pe_int) po_none))) pa_nil))))), rfl⟩) (fun _ => rfl) fun E ds hp => ?_
  · match ds, h with
    | [_], _ => rfl
  · match ds, hp with
    | [body_], hp => exact w_at (u_quotes_of T E) (v_quotes_of T E hp) rfl rfl rfl
abbrev pre_copies_of : List D → Prop
  | [body_] => BVb body_
  | _ => False
abbrev post_copies_of : List D → D → Prop
  | [body_], r => bodyB body_ = true ∧ r = copiesD body_
  | _, _ => False
abbrev exc_copies_of (a_QUOTING a_BadBody i_BadBody : Addr) : List D → Xq
  | [body_] => fun C fs => bodyB body_ = false ∧ C = a_BadBody ∧ fs = [(("body" : Str), body_)]
  | _ => noX
def u_copies_of (T : Txt K mg a_QUOTING a_BadBody i_BadBody) (E : XK) : WS K E := (WS.seq (WS.drop (WM.up (WE.callX pre_need_body post_need_body (exc_need_body a_QUOTING a_BadBody i_BadBody) (WA.cons (WE.var 0) WA.nil))))
 (WS.ret (WM.up (WE.call pre_ascending post_ascending (WA.cons (WE.lc (WI.seq (WE.var 0)) (WG.name 1) (WT.tst (WE.op O2.eq (WE.op O2.ix (WE.var 1) (WE.int 0)) (WE.str "copy"))) (WE.sl (WE.var 1) (WO.some (WE.int 1)) WO.none) 999999) WA.nil)))))
theorem v_copies_of {body_ : D} (T : Txt K mg a_QUOTING a_BadBody i_BadBody) (E : XK) (hp : BVb body_) : (u_copies_of T E).w (exc_copies_of a_QUOTING a_BadBody i_BadBody [body_]) [.dat body_, .un] (retW fun r => bodyB body_ = true ∧ r = copiesD body_) := by
  unfold u_copies_of
  walk_at "w"
  try simp only [pre_need_body, post_need_body, pre_ascending, post_ascending]
  try walk_at "w"
  try simp only [pre_need_body, post_need_body, pre_ascending, post_ascending]
  try walk_at "w"

  refine ⟨hp, fun d h => ?_, fun C fs h => h⟩
  obtain ⟨hb, _⟩ := h
  obtain ⟨ds, rfl, hl, hr⟩ := body_view hb
  refine ⟨ds, rfl, LcP.filt (headIs "copy") restD (by omega) (fun x hx => ⟨_, rfl, ?_, fun hy => ?_⟩) ?_⟩
  · rcases piece_view (hr x hx) with ⟨z, rfl⟩ | ⟨a, b, rfl⟩ | ⟨a, b, n, rfl⟩ <;> (walk_at "w"; exact ⟨ok_w _ (by simp), ok_w _ (by simp), by simp [headIs]⟩)
  · rcases piece_view (hr x hx) with ⟨z, rfl⟩ | ⟨a, b, rfl⟩ | ⟨a, b, n, rfl⟩ <;> (walk_at "w"; exact ⟨rfl, rfl⟩)
  · rw [cops_eq hr]
    refine ⟨⟨_, rfl, Nat.lt_of_le_of_lt (len_cops ds) (by omega), uni_cops (cops_shape hr)⟩, fun d1 h1 => ⟨hb, ?_⟩⟩
    obtain ⟨kss, e, rfl⟩ := h1
    have e' : copsK ds = kss := tupD_inj (by simpa using e)
    rw [← e']
    rfl
theorem c_copies_of (X : Defs K mg a_QUOTING a_BadBody i_BadBody) (T : Txt K mg a_QUOTING a_BadBody i_BadBody) : CalX P w K mg base "copies_of" 7 ["body"] [] (SpX K pre_copies_of post_copies_of (exc_copies_of a_QUOTING a_BadBody i_BadBody)) := by
  have c_need_body := c_need_body (P := P) (w := w) (base := base) X T
  have c_ascending := c_ascending (P := P) (w := w) (base := base) X T
  have o_BadBody := o_BadBody (P := P) (w := w) (base := base) X T
  refine cal_WX (N := N_copies_of) (u_copies_of T) X.d_copies_of sc_copies_of (fun ds h => ?_) (fun f cdv A outer s H E hr ng => ⟨_, (pss_cons (ps_expr (peg_calX c_need_body hr (by decide) ng rfl (takes_of rfl rfl rfl rfl) (pa_cons (pv 0) pa_nil)))
 (pss_one (ps_ret (peg_cal c_ascending hr (by decide) ng rfl (pa_cons (pe_lc (own := [("piece", 1)]) (g := (gName 1)) (by rfl) sc_copies_of.nd (pi_seqk (K := K) (pv 0)) (blkOk_by (own := [("piece", 1)]) (N := N_copies_of) (sc := defScope s_copies_of) (by decide +kernel)) (fun _ _ _ _ _ => (pg_name (i := 1) sc_copies_of.nd rfl (Or.inl rfl))) (fun _ _ _ _ _ => (pts_one (pt_cmpR (op_eqDk (K := K) (Room.units hr)) (pe_ix (ix_seqk (K := K)) (pv 1) pe_int (fun _ _ => rfl)) pe_str (nomark _)))) (fun _ _ _ _ _ => (pe_slice (sl_Uk (K := K)) (pv 1) (po_some pe_int) po_none))) pa_nil))))), rfl⟩) (fun _ => rfl) fun E ds hp => ?_
  · match ds, h with
    | [_], _ => rfl
  · match ds, hp with
    | [body_], hp => exact w_at (u_copies_of T E) (v_copies_of T E hp) rfl rfl rfl
end
end K67
set_option maxRecDepth 100000
set_option maxHeartbeats 8000000
namespace K67
open PySem L2 PyProof.Rows DL
section
variable {P : Program} {w : World} {K : PySem.W.Frag} {mg : Str → Option Value} {base : Heap} {a_QUOTING a_BadBody i_BadBody : Addr}
local macro_rules | `(tactic| walk_at "w") => `(tactic| simp (config := { maxSteps := 10000000 }) only [DL.sub_un, DL.sub_pen, DL.sub_dat, DL.dsub_non, DL.dsub_bl, DL.dsub_int, DL.dsub_str, DL.dsub_ptr, DL.dsub_lst, DL.dsub_tup, DL.dsub_err, DL.dsubs_nil, DL.dsubs_cons, DL.w_isX, DL.w_isP, DL.w_sset, DL.w_enumU, DL.n_sortedE, DL.w_join, DL.w_ixO, DL.w_setAt, DL.ownI_0, DL.ownI_s, DL.w_wflc, DL.w_wflist, DL.w_asgF, DL.w_par3, DL.w_par3F, DL.w_lam, DL.w_toldA, DL.np_un, DL.np_dat, DL.np_own, DL.np_pen, DL.w_tryRaise, DL.chW_cons, DL.w_tryRaise0, DL.ch0_cons, DL.w_parOL, DL.owAt_0, DL.owAt_s, DL.w_pvar, DL.w_name, DL.w_tell, DL.w_appendO, DL.w_mkE, DL.w_mkE0, DL.w_fldX, DL.w_var, DL.w_int, DL.w_bl, DL.w_str, DL.w_non, DL.w_ktup, DL.w_op, DL.w_neg, DL.w_chain, DL.w_nil, DL.w_cons, DL.w_tup, DL.w_lst, DL.w_tst, DL.w_tb, DL.w_not, DL.w_yes, DL.w_and, DL.w_or, DL.w_andV, DL.w_orV, DL.w_notV, DL.w_ite, DL.w_none, DL.w_some, DL.w_sl, DL.w_cb, DL.w_isi, DL.w_isi2, DL.w_call, DL.w_callD, DL.w_callX, DL.w_callG, DL.w_split, DL.w_dget, DL.w_knil, DL.w_kcons, DL.w_dispK, DL.w_seqI, DL.w_rng1, DL.w_rng2, DL.w_enum, DL.w_zip, DL.w_lc, DL.w_borrow, DL.w_up, DL.w_popAt, DL.w_next, DL.w_brk, DL.w_cont, DL.w_seq, DL.w_ret, DL.w_retN, DL.w_asg, DL.w_asgT, DL.w_asgOwn, DL.w_drop, DL.w_ifS, DL.w_append, DL.w_raiseO, DL.w_xf, DL.w_tryAsg, DL.w_mkX, DL.w_fldR, DL.w_fld, DL.w_isC, DL.q_eqO, DL.q_neO, DL.w_tryMk, DL.slfAt_0, DL.slfAt_s, DL.w_asgLend, DL.lendAt_o, DL.lendAt_d, DL.lendAt_s, DL.w_borrowD, DL.w_asgIteL, DL.w_frz, frzAt_0, frzAt_d, frzAt_u, frzAt_s, DL.w_forS, DL.w_par, DL.w_parLE,
  DL.q_int, DL.q_cmp, DL.q_intC, DL.q_addI, DL.q_addS, DL.q_addT, DL.q_addL, DL.q_mulI, DL.q_mulS, DL.q_mulL, DL.q_eq, DL.q_ne, DL.q_isN, DL.q_isB, DL.q_notN, DL.q_inT, DL.q_inL, DL.q_inS, DL.q_ninT, DL.q_ninL, DL.q_ninS, DL.q_ixL, DL.q_ixT, DL.q_ixS, DL.n_len, DL.n_list, DL.n_tuple, DL.n_all, DL.n_any, DL.n_sum, DL.n_sortedS, DL.n_min2, DL.n_max2, DL.n_int1, DL.n_int2, DL.n_int2b, DL.q_neS, DL.q_innE, DL.q_ninE, DL.w_dct0, DL.q_eqS, DL.n_strI, DL.n_repr, DL.g_name, DL.is_name, DL.is_tupG, DL.is_seqG, DL.is_consG, DL.is_nilG, cut_tup, cut_lst,  isi_str, isi_int, isi_bool, isi_tuple, isi_list,
  datAt_0, datAt_s, ownAt_0, ownAt_s, penIs_0, penIs_s, setD_nil, setD_cons, wipeG, List.set_cons_zero, List.set_cons_succ, List.set_nil, List.map_cons, List.map_nil, List.cons_append, List.nil_append,
  D.bl.injEq, D.int.injEq, D.str.injEq, exists_eq_left', exists_eq_left, exists_and_left, exists_eq', exists_eq, true_and, and_true, true_imp_iff, false_imp_iff, Bool.true_eq_false, Bool.false_eq_true, forall_const, Bool.not_true, Bool.not_false, List.length_cons, List.length_nil, eqv_str, eqv_int, ok_int, ok_bl, ok_non, forall_eq, atI_0, atI_1, atI_2, atI_3, List.getElem?_cons_zero, List.getElem?_cons_succ, List.getElem?_nil, Option.some.injEq, Sk.own.injEq, len_tup, len_lst, its_tup, its_lst, itemsOf_tup, itemsOf_lst, itemsOf_str, isS_str, isT_tup, isL_lst, isI_int, isB_bl, builtin_str, builtin_tup, builtin_lst, builtin_int, builtin_bl, builtin_non, D.sign_one, List.all_cons, List.all_nil, Bool.and_true])

theorem sLF_eq : ("abcdefghijklmnopqrstuvwxyz0123456789" : Str) = sLF := by decide +kernel
abbrev pre_law_is_name : List D → Prop
  | [word_] => GV word_ ∧ ∃ z, word_ = .str z
  | _ => False
abbrev post_law_is_name : List D → D → Prop
  | [word_], r => r = .bl (nameB word_)
  | _, _ => False
def u_law_is_name (T : Txt K mg a_QUOTING a_BadBody i_BadBody) : WS K L2.E0 := (WS.seq (WS.asg 1 (WM.up (WE.str "abcdefghijklmnopqrstuvwxyz")))
 (WS.ret (WM.up (WE.andV (WE.chain (fun i j => decide (i ≤ j)) (fun i j => decide (i ≤ j)) (WE.int 1) (WE.cb ON.len (WA.cons (WE.var 0) WA.nil)) (WE.int 12)) (WE.andV (WE.op O2.inn (WE.op O2.ix (WE.var 0) (WE.int 0)) (WE.var 1)) (WE.op O2.eq (WE.lc (WI.seq (WE.var 0)) (WG.name 2) (WT.tst (WE.op O2.nin (WE.var 2) (WE.op O2.add (WE.var 1) (WE.str "0123456789")))) (WE.var 2) 999999) (WE.lst WA.nil)))))))
theorem v_law_is_name {word_ : D} (T : Txt K mg a_QUOTING a_BadBody i_BadBody) (hp : GV word_ ∧ ∃ z, word_ = .str z) : (u_law_is_name T).w noX [.dat word_, .un, .un] (retW fun r => r = .bl (nameB word_)) := by
  unfold u_law_is_name
  walk_at "w"

  obtain ⟨hg, z, rfl⟩ := hp
  have hz : z.length ≤ 999999 := (LV.of hg).len z rfl
  walk_at "w"
  refine ⟨_, (LV.of hg).sl, fun h1 => ⟨fun h2 => ?_, fun h2 => ?_⟩, fun h1 => ?_⟩
  · have h1' := of_decide_eq_true h1
    have h2' : (z.length : Int) ≤ 12 := by simpa using h2
    obtain ⟨c, cs, e⟩ := cons_of h1'
    have eh : headB (.str z) = decide (c ∈ sLET.cps.toList) := by simp only [headB, e]
    refine ⟨c, by rw [e]; rfl, by omega, fun h3 => ?_, fun h3 => ?_⟩
    · have h3' : headB (.str z) = true := eh.trans h3
      refine lc_not (n := 12) (inSign sLF) (by simp; omega) (by simp) (fun d hd => ?_) (fun d hd => ?_) ?_
      · obtain ⟨k, hk, rfl⟩ := mem_signs hd
        exact sign_gd hg hk
      · obtain ⟨k, hk, rfl⟩ := mem_signs hd
        walk_at "w"
        exact ⟨by decide, rfl⟩
      · rw [all_signs, nameB, h3', madeB_in h1' h2', Bool.and_true]
    · have h3' : headB (.str z) = false := eh.trans h3
      rw [nameB, h3', Bool.and_false]
  · rw [nameB_len (.inr (by simpa using h2))]
  · rw [nameB_len (.inl (of_decide_eq_false h1))]
theorem c_law_is_name (X : Defs K mg a_QUOTING a_BadBody i_BadBody) (T : Txt K mg a_QUOTING a_BadBody i_BadBody) : Cal P w K mg base "_law_is_name" 1 ["word"] [] (SpP K pre_law_is_name post_law_is_name) := by
  refine cal_W (N := N_law_is_name) (u_law_is_name T) X.d_law_is_name sc_law_is_name (fun ds h => ?_) (fun f cdv A outer s H E hr ng => ⟨_, (pss_cons (ps_set (i := 1) sc_law_is_name.nd rfl (Or.inr rfl) pe_str)
 (pss_one (ps_ret (pe_and (pe_chain op_le op_le pe_int (pe_callB (call_lenk (K := K)) (by rfl) T.b_len (by decide +kernel) (pa_cons (pv 0) pa_nil)) pe_int) (pe_and (pe_cmpR (op_inUk (K := K)) (pe_ix (ix_seqk (K := K)) (pv 0) pe_int (fun _ _ => rfl)) (pv 1) (by rfl)) (pe_one (pe_cmpR (op_eqDk (K := K) (Room.units hr)) (pe_lc (own := [("one", 2)]) (g := (gName 2)) (by rfl) sc_law_is_name.nd (pi_seqk (K := K) (pv 0)) (blkOk_by (own := [("one", 2)]) (N := N_law_is_name) (sc := defScope s_law_is_name) (by decide +kernel)) (fun _ _ _ _ _ => (pg_name (i := 2) sc_law_is_name.nd rfl (Or.inl rfl))) (fun _ _ _ _ _ => (pts_one (pt_cmpR (op_ninUk (K := K)) (pv 2) (pe_op (op_addUk (K := K)) (pv 1) pe_str) (by rfl)))) (fun _ _ _ _ _ => (pv 2))) (pe_lst pa_nil) (nomark _)))))))), rfl⟩) rfl fun ds hp => ?_
  · match ds, h with
    | [_], _ => rfl
  · match ds, hp with
    | [word_], hp => exact w_at (u_law_is_name T) (v_law_is_name T hp) rfl rfl rfl
abbrev pre_law_is_plain : List D → Prop
  | [word_] => GV word_ ∧ ∃ z, word_ = .str z
  | _ => False
abbrev post_law_is_plain : List D → D → Prop
  | [word_], r => r = .bl (wordB word_)
  | _, _ => False
def u_law_is_plain (T : Txt K mg a_QUOTING a_BadBody i_BadBody) : WS K L2.E0 := (WS.seq (WS.asg 1 (WM.up (WE.str "abcdefghijklmnopqrstuvwxyz0123456789")))
 (WS.ret (WM.up (WE.andV (WE.chain (fun i j => decide (i ≤ j)) (fun i j => decide (i ≤ j)) (WE.int 1) (WE.cb ON.len (WA.cons (WE.var 0) WA.nil)) (WE.int 12)) (WE.andV (WE.op O2.nin (WE.var 0) (WE.lst (WA.cons (WE.str "see") (WA.cons (WE.str "copy") WA.nil)))) (WE.op O2.eq (WE.lc (WI.seq (WE.var 0)) (WG.name 2) (WT.tst (WE.op O2.nin (WE.var 2) (WE.var 1))) (WE.var 2) 999999) (WE.lst WA.nil)))))))
theorem v_law_is_plain {word_ : D} (T : Txt K mg a_QUOTING a_BadBody i_BadBody) (hp : GV word_ ∧ ∃ z, word_ = .str z) : (u_law_is_plain T).w noX [.dat word_, .un, .un] (retW fun r => r = .bl (wordB word_)) := by
  unfold u_law_is_plain
  walk_at "w"

  obtain ⟨hg, z, rfl⟩ := hp
  have hz : z.length ≤ 999999 := (LV.of hg).len z rfl
  walk_at "w"
  refine ⟨_, (LV.of hg).sl, fun h1 => ⟨fun h2 => ⟨by decide, rfl, rfl, fun h3 => ?_, fun h3 => ?_⟩, fun h2 => ?_⟩, fun h1 => ?_⟩
  · have h1' := of_decide_eq_true h1
    have h2' : (z.length : Int) ≤ 12 := by simpa using h2
    have q : quotB (.str z) = false := by
      simpa [inD_cons, inD_nil, quotB] using h3
    refine lc_not (n := 12) (inSign sLF) (by simp; omega) (by simp) (fun d hd => ?_) (fun d hd => ?_) ?_
    · obtain ⟨k, hk, rfl⟩ := mem_signs hd
      exact sign_gd hg hk
    · obtain ⟨k, hk, rfl⟩ := mem_signs hd
      walk_at "w"
      rw [sLF_eq]
      rfl
    · rw [all_signs, wordB, madeB_in h1' h2', q, Bool.not_false, Bool.and_true]
  · have q : quotB (.str z) = true := by
      by_cases y : z = "see"
      · subst y; simp [quotB]
      · simp [inD_cons, inD_nil, y] at h3; subst h3; simp [quotB]
    rw [wordB, q]; simp
  · rw [wordB_len (.inr (by simpa using h2))]
  · rw [wordB_len (.inl (of_decide_eq_false h1))]
theorem c_law_is_plain (X : Defs K mg a_QUOTING a_BadBody i_BadBody) (T : Txt K mg a_QUOTING a_BadBody i_BadBody) : Cal P w K mg base "_law_is_plain" 1 ["word"] [] (SpP K pre_law_is_plain post_law_is_plain) := by
  refine cal_W (N := N_law_is_plain) (u_law_is_plain T) X.d_law_is_plain sc_law_is_plain (fun ds h => ?_) (fun f cdv A outer s H E hr ng => ⟨_, (pss_cons (ps_set (i := 1) sc_law_is_plain.nd rfl (Or.inr rfl) pe_str)
 (pss_one (ps_ret (pe_and (pe_chain op_le op_le pe_int (pe_callB (call_lenk (K := K)) (by rfl) T.b_len (by decide +kernel) (pa_cons (pv 0) pa_nil)) pe_int) (pe_and (pe_cmpR (op_ninUk (K := K)) (pv 0) (pe_lst (pa_cons pe_str (pa_cons pe_str pa_nil))) (by rfl)) (pe_one (pe_cmpR (op_eqDk (K := K) (Room.units hr)) (pe_lc (own := [("one", 2)]) (g := (gName 2)) (by rfl) sc_law_is_plain.nd (pi_seqk (K := K) (pv 0)) (blkOk_by (own := [("one", 2)]) (N := N_law_is_plain) (sc := defScope s_law_is_plain) (by decide +kernel)) (fun _ _ _ _ _ => (pg_name (i := 2) sc_law_is_plain.nd rfl (Or.inl rfl))) (fun _ _ _ _ _ => (pts_one (pt_cmpR (op_ninUk (K := K)) (pv 2) (pv 1) (by rfl)))) (fun _ _ _ _ _ => (pv 2))) (pe_lst pa_nil) (nomark _)))))))), rfl⟩) rfl fun ds hp => ?_
  · match ds, h with
    | [_], _ => rfl
  · match ds, hp with
    | [word_], hp => exact w_at (u_law_is_plain T) (v_law_is_plain T hp) rfl rfl rfl
abbrev pre_law_is_whole : List D → Prop
  | [value_] => LV value_
  | _ => False
abbrev post_law_is_whole : List D → D → Prop
  | [value_], r => r = .bl (value_.isI)
  | _, _ => False
def u_law_is_whole (T : Txt K mg a_QUOTING a_BadBody i_BadBody) : WS K L2.E0 := (WS.ret (WM.up (WE.andV (WE.isi "int" (WE.var 0)) (WE.notV (WE.isi "bool" (WE.var 0))))))
theorem v_law_is_whole {value_ : D} (T : Txt K mg a_QUOTING a_BadBody i_BadBody) (hp : LV value_) : (u_law_is_whole T).w noX [.dat value_] (retW fun r => r = .bl (value_.isI)) := by
  unfold u_law_is_whole
  walk_at "w"

  refine ⟨hp.bi, fun h => ⟨hp.bi, ?_⟩, fun h => ?_⟩ <;> (cases value_ <;> first | rfl | cases h | simp_all [D.isI, D.isB])
theorem c_law_is_whole (X : Defs K mg a_QUOTING a_BadBody i_BadBody) (T : Txt K mg a_QUOTING a_BadBody i_BadBody) : Cal P w K mg base "_law_is_whole" 1 ["value"] [] (SpP K pre_law_is_whole post_law_is_whole) := by
  refine cal_W (N := N_law_is_whole) (u_law_is_whole T) X.d_law_is_whole sc_law_is_whole (fun ds h => ?_) (fun f cdv A outer s H E hr ng => ⟨_, (pss_one (ps_ret (pe_and (pe_callB (call_isik (K := K)) (by rfl) T.b_isinstance (by decide +kernel) (pa_cons (pv 0) (pa_cons (pe_bltn (v := .ty "int") (by rfl) T.b_int (by decide +kernel) rfl) pa_nil))) (pe_one (pe_not (pe_callB (call_isik (K := K)) (by rfl) T.b_isinstance (by decide +kernel) (pa_cons (pv 0) (pa_cons (pe_bltn (v := .ty "bool") (by rfl) T.b_bool (by decide +kernel) rfl) pa_nil)))))))), rfl⟩) rfl fun ds hp => ?_
  · match ds, h with
    | [_], _ => rfl
  · match ds, hp with
    | [value_], hp => exact w_at (u_law_is_whole T) (v_law_is_whole T hp) rfl rfl rfl
abbrev pre_law_is_any_name : List D → Prop
  | [value_] => GV value_
  | _ => False
abbrev post_law_is_any_name : List D → D → Prop
  | [value_], r => r = .bl (nameB value_)
  | _, _ => False
def u_law_is_any_name (T : Txt K mg a_QUOTING a_BadBody i_BadBody) : WS K L2.E0 := (WS.ret (WM.up (WE.andV (WE.isi "str" (WE.var 0)) (WE.andV (WE.op (O2.cmp fun i j => decide (j < i)) (WE.cb ON.len (WA.cons (WE.var 0) WA.nil)) (WE.int 0)) (WE.call pre_law_is_name post_law_is_name (WA.cons (WE.var 0) WA.nil))))))
theorem v_law_is_any_name {value_ : D} (T : Txt K mg a_QUOTING a_BadBody i_BadBody) (hp : GV value_) : (u_law_is_any_name T).w noX [.dat value_] (retW fun r => r = .bl (nameB value_)) := by
  unfold u_law_is_any_name
  walk_at "w"
  try simp only [pre_law_is_name, post_law_is_name]
  try walk_at "w"
  try simp only [pre_law_is_name, post_law_is_name]
  try walk_at "w"

  refine ⟨hp.bi, fun h => ?_, fun h => ?_⟩
  · cases value_ with
    | str z =>
      refine ⟨_, (LV.of hp).sl, fun h1 => ⟨hp, z, rfl⟩, fun h1 => ?_⟩
      rw [nameB_len (.inl (by have := of_decide_eq_false h1; omega))]
    | _ => cases h
  · cases value_ with
    | str z => cases h
    | _ => rfl
theorem c_law_is_any_name (X : Defs K mg a_QUOTING a_BadBody i_BadBody) (T : Txt K mg a_QUOTING a_BadBody i_BadBody) : Cal P w K mg base "_law_is_any_name" 2 ["value"] [] (SpP K pre_law_is_any_name post_law_is_any_name) := by
  have c_law_is_name := c_law_is_name (P := P) (w := w) (base := base) X T
  refine cal_W (N := N_law_is_any_name) (u_law_is_any_name T) X.d_law_is_any_name sc_law_is_any_name (fun ds h => ?_) (fun f cdv A outer s H E hr ng => ⟨_, (pss_one (ps_ret (pe_and (pe_callB (call_isik (K := K)) (by rfl) T.b_isinstance (by decide +kernel) (pa_cons (pv 0) (pa_cons (pe_bltn (v := .ty "str") (by rfl) T.b_str (by decide +kernel) rfl) pa_nil))) (pe_and (pe_cmpR op_gt (pe_callB (call_lenk (K := K)) (by rfl) T.b_len (by decide +kernel) (pa_cons (pv 0) pa_nil)) pe_int (nomark _)) (pe_one (peg_cal c_law_is_name hr (by decide) ng rfl (pa_cons (pv 0) pa_nil))))))), rfl⟩) rfl fun ds hp => ?_
  · match ds, h with
    | [_], _ => rfl
  · match ds, hp with
    | [value_], hp => exact w_at (u_law_is_any_name T) (v_law_is_any_name T hp) rfl rfl rfl
abbrev pre_law_says : List D → Prop
  | [told_, due_] => ∃ a b, told_ = .bl a ∧ due_ = .bl b
  | _ => False
abbrev post_law_says : List D → D → Prop
  | [told_, due_], r => ∃ a b, told_ = .bl a ∧ due_ = .bl b ∧ r = .bl (decide (a = b))
  | _, _ => False
def u_law_says (T : Txt K mg a_QUOTING a_BadBody i_BadBody) : WS K L2.E0 := (WS.ret (WM.up (WE.andV (WE.isi "bool" (WE.var 0)) (WE.op O2.eq (WE.var 0) (WE.var 1)))))
theorem v_law_says {told_ due_ : D} (T : Txt K mg a_QUOTING a_BadBody i_BadBody) (hp : ∃ a b, told_ = .bl a ∧ due_ = .bl b) : (u_law_says T).w noX [.dat told_, .dat due_] (retW fun r => ∃ a b, told_ = .bl a ∧ due_ = .bl b ∧ r = .bl (decide (a = b))) := by
  unfold u_law_says
  walk_at "w"

  obtain ⟨a, b, rfl, rfl⟩ := hp
  refine ⟨rfl, fun _ => ⟨rfl, rfl, a, rfl, b, rfl, ?_⟩, fun h => by cases h⟩
  cases a <;> cases b <;> rfl
theorem c_law_says (X : Defs K mg a_QUOTING a_BadBody i_BadBody) (T : Txt K mg a_QUOTING a_BadBody i_BadBody) : Cal P w K mg base "_law_says" 1 ["told", "due"] [] (SpP K pre_law_says post_law_says) := by
  refine cal_W (N := N_law_says) (u_law_says T) X.d_law_says sc_law_says (fun ds h => ?_) (fun f cdv A outer s H E hr ng => ⟨_, (pss_one (ps_ret (pe_and (pe_callB (call_isik (K := K)) (by rfl) T.b_isinstance (by decide +kernel) (pa_cons (pv 0) (pa_cons (pe_bltn (v := .ty "bool") (by rfl) T.b_bool (by decide +kernel) rfl) pa_nil))) (pe_one (pe_cmpR (op_eqDk (K := K) (Room.units hr)) (pv 0) (pv 1) (nomark _)))))), rfl⟩) rfl fun ds hp => ?_
  · match ds, h with
    | [_, _], _ => rfl
  · match ds, hp with
    | [told_, due_], hp => exact w_at (u_law_says T) (v_law_says T hp) rfl rfl rfl
end
end K67
set_option maxRecDepth 100000
set_option maxHeartbeats 8000000
namespace K67
open PySem L2 PyProof.Rows DL
section
variable {P : Program} {w : World} {K : PySem.W.Frag} {mg : Str → Option Value} {base : Heap} {a_QUOTING a_BadBody i_BadBody : Addr}
local macro_rules | `(tactic| walk_at "w") => `(tactic| simp (config := { maxSteps := 10000000 }) only [DL.sub_un, DL.sub_pen, DL.sub_dat, DL.dsub_non, DL.dsub_bl, DL.dsub_int, DL.dsub_str, DL.dsub_ptr, DL.dsub_lst, DL.dsub_tup, DL.dsub_err, DL.dsubs_nil, DL.dsubs_cons, DL.w_isX, DL.w_isP, DL.w_sset, DL.w_enumU, DL.n_sortedE, DL.w_join, DL.w_ixO, DL.w_setAt, DL.ownI_0, DL.ownI_s, DL.w_wflc, DL.w_wflist, DL.w_asgF, DL.w_par3, DL.w_par3F, DL.w_lam, DL.w_toldA, DL.np_un, DL.np_dat, DL.np_own, DL.np_pen, DL.w_tryRaise, DL.chW_cons, DL.w_tryRaise0, DL.ch0_cons, DL.w_parOL, DL.owAt_0, DL.owAt_s, DL.w_pvar, DL.w_name, DL.w_tell, DL.w_appendO, DL.w_mkE, DL.w_mkE0, DL.w_fldX, DL.w_var, DL.w_int, DL.w_bl, DL.w_str, DL.w_non, DL.w_ktup, DL.w_op, DL.w_neg, DL.w_chain, DL.w_nil, DL.w_cons, DL.w_tup, DL.w_lst, DL.w_tst, DL.w_tb, DL.w_not, DL.w_yes, DL.w_and, DL.w_or, DL.w_andV, DL.w_orV, DL.w_notV, DL.w_ite, DL.w_none, DL.w_some, DL.w_sl, DL.w_cb, DL.w_isi, DL.w_isi2, DL.w_call, DL.w_callD, DL.w_callX, DL.w_callG, DL.w_split, DL.w_dget, DL.w_knil, DL.w_kcons, DL.w_dispK, DL.w_seqI, DL.w_rng1, DL.w_rng2, DL.w_enum, DL.w_zip, DL.w_lc, DL.w_borrow, DL.w_up, DL.w_popAt, DL.w_next, DL.w_brk, DL.w_cont, DL.w_seq, DL.w_ret, DL.w_retN, DL.w_asg, DL.w_asgT, DL.w_asgOwn, DL.w_drop, DL.w_ifS, DL.w_append, DL.w_raiseO, DL.w_xf, DL.w_tryAsg, DL.w_mkX, DL.w_fldR, DL.w_fld, DL.w_isC, DL.q_eqO, DL.q_neO, DL.w_tryMk, DL.slfAt_0, DL.slfAt_s, DL.w_asgLend, DL.lendAt_o, DL.lendAt_d, DL.lendAt_s, DL.w_borrowD, DL.w_asgIteL, DL.w_frz, frzAt_0, frzAt_d, frzAt_u, frzAt_s, DL.w_forS, DL.w_par, DL.w_parLE,
  DL.q_int, DL.q_cmp, DL.q_intC, DL.q_addI, DL.q_addS, DL.q_addT, DL.q_addL, DL.q_mulI, DL.q_mulS, DL.q_mulL, DL.q_eq, DL.q_ne, DL.q_isN, DL.q_isB, DL.q_notN, DL.q_inT, DL.q_inL, DL.q_inS, DL.q_ninT, DL.q_ninL, DL.q_ninS, DL.q_ixL, DL.q_ixT, DL.q_ixS, DL.n_len, DL.n_list, DL.n_tuple, DL.n_all, DL.n_any, DL.n_sum, DL.n_sortedS, DL.n_min2, DL.n_max2, DL.n_int1, DL.n_int2, DL.n_int2b, DL.q_neS, DL.q_innE, DL.q_ninE, DL.w_dct0, DL.q_eqS, DL.n_strI, DL.n_repr, DL.g_name, DL.is_name, DL.is_tupG, DL.is_seqG, DL.is_consG, DL.is_nilG, cut_tup, cut_lst,  isi_str, isi_int, isi_bool, isi_tuple, isi_list,
  datAt_0, datAt_s, ownAt_0, ownAt_s, penIs_0, penIs_s, setD_nil, setD_cons, wipeG, List.set_cons_zero, List.set_cons_succ, List.set_nil, List.map_cons, List.map_nil, List.cons_append, List.nil_append,
  D.bl.injEq, D.int.injEq, D.str.injEq, exists_eq_left', exists_eq_left, exists_and_left, exists_eq', exists_eq, true_and, and_true, true_imp_iff, false_imp_iff, Bool.true_eq_false, Bool.false_eq_true, forall_const, Bool.not_true, Bool.not_false, List.length_cons, List.length_nil, eqv_str, eqv_int, ok_int, ok_bl, ok_non, forall_eq, atI_0, atI_1, atI_2, atI_3, List.getElem?_cons_zero, List.getElem?_cons_succ, List.getElem?_nil, Option.some.injEq, Sk.own.injEq, len_tup, len_lst, its_tup, its_lst, itemsOf_tup, itemsOf_lst, itemsOf_str, isS_str, isT_tup, isL_lst, isI_int, isB_bl, builtin_str, builtin_tup, builtin_lst, builtin_int, builtin_bl, builtin_non, D.sign_one, List.all_cons, List.all_nil, Bool.and_true])

abbrev pre_law_is_piece : List D → Prop
  | [piece_] => BVp piece_
  | _ => False
abbrev post_law_is_piece : List D → D → Prop
  | [piece_], r => r = .bl (pieceB piece_)
  | _, _ => False
def u_law_is_piece (T : Txt K mg a_QUOTING a_BadBody i_BadBody) : WS K L2.E0 := (WS.seq (WS.ifS (WT.or (WT.not (WT.b (WE.isi "tuple" (WE.var 0)))) (WT.or (WT.tst (WE.op (O2.cmp fun i j => decide (i < j)) (WE.cb ON.len (WA.cons (WE.var 0) WA.nil)) (WE.int 2))) (WT.not (WT.b (WE.isi "str" (WE.op O2.ix (WE.var 0) (WE.int 0)))))))
 (WS.ret (WM.up (WE.bl false)))
 WS.next)
 (WS.seq (WS.ifS (WT.tst (WE.op O2.eq (WE.op O2.ix (WE.var 0) (WE.int 0)) (WE.str "word")))
 (WS.ret (WM.up (WE.andV (WE.op O2.eq (WE.cb ON.len (WA.cons (WE.var 0) WA.nil)) (WE.int 2)) (WE.andV (WE.isi "str" (WE.op O2.ix (WE.var 0) (WE.int 1))) (WE.andV (WE.op O2.ne (WE.op O2.ix (WE.var 0) (WE.int 1)) (WE.str "")) (WE.call pre_law_is_plain post_law_is_plain (WA.cons (WE.op O2.ix (WE.var 0) (WE.int 1)) WA.nil)))))))
 WS.next)
 (WS.seq (WS.ifS (WT.or (WT.tst (WE.op O2.nin (WE.op O2.ix (WE.var 0) (WE.int 0)) (WE.lst (WA.cons (WE.str "see") (WA.cons (WE.str "copy") WA.nil))))) (WT.tst (WE.op O2.ne (WE.cb ON.len (WA.cons (WE.var 0) WA.nil)) (WE.op O2.add (WE.int 3) (WE.cb ON.int2 (WA.cons (WE.op O2.eq (WE.op O2.ix (WE.var 0) (WE.int 0)) (WE.str "copy")) WA.nil))))))
 (WS.ret (WM.up (WE.bl false)))
 WS.next)
 (WS.seq (WS.ifS (WT.or (WT.not (WT.b (WE.call pre_law_is_any_name post_law_is_any_name (WA.cons (WE.op O2.ix (WE.var 0) (WE.int 1)) WA.nil)))) (WT.not (WT.b (WE.call pre_law_is_any_name post_law_is_any_name (WA.cons (WE.op O2.ix (WE.var 0) (WE.int 2)) WA.nil)))))
 (WS.ret (WM.up (WE.bl false)))
 WS.next)
 (WS.ret (WM.up (WE.orV (WE.op O2.eq (WE.op O2.ix (WE.var 0) (WE.int 0)) (WE.str "see")) (WE.andV (WE.call pre_law_is_whole post_law_is_whole (WA.cons (WE.op O2.ix (WE.var 0) (WE.int 3)) WA.nil)) (WE.op (O2.cmp fun i j => decide (j < i)) (WE.op O2.ix (WE.var 0) (WE.int 3)) (WE.int 0))))))))))
theorem v_law_is_piece {piece_ : D} (T : Txt K mg a_QUOTING a_BadBody i_BadBody) (hp : BVp piece_) : (u_law_is_piece T).w noX [.dat piece_] (retW fun r => r = .bl (pieceB piece_)) := by
  unfold u_law_is_piece
  walk_at "w"
  try simp only [pre_law_is_plain, post_law_is_plain, pre_law_is_any_name, post_law_is_any_name, pre_law_is_whole, post_law_is_whole]
  try walk_at "w"
  try simp only [pre_law_is_plain, post_law_is_plain, pre_law_is_any_name, post_law_is_any_name, pre_law_is_whole, post_law_is_whole]
  try walk_at "w"

  rcases hp with hp | rfl
  rotate_left
  · simp [pieceB]
  cases piece_ with
  | tup ds =>
    have hg := hp.it
    rcases ds with _ | ⟨a, _ | ⟨b, l⟩⟩
    · simp [pieceB]
    · cases a <;> simp [pieceB, pieceT]
    · cases a with
      | str wd =>
        have ha : (D.str wd).ok = true := (hg _ List.mem_cons_self).ok
        have o1 := ok_w "word" (by simp)
        have o2 := ok_w "copy" (by simp)
        have o3 := ok_w "see" (by simp)
        have o4 : (D.str "").ok = true := by decide +kernel
        have hb := hg b (by simp)
        walk_at "w"
        simp only [ha, o1, o2, o3, o4, true_and]
        rcases l with _ | ⟨c, _ | ⟨d, _ | ⟨e, l⟩⟩⟩
        · by_cases h1 : wd = "word"
          · subst h1
            have e0 : pieceB (.tup [.str "word", b]) = wordB b := by simp [pieceB, pieceT]
            rw [e0]
            cases b with
            | str z =>
              by_cases hz : z = ""
              · subst hz
                have e1 : wordB (.str "") = false := wordB_len (.inl (by decide))
                simp [e1, hb, hb.ok, eqv_str]
              · simp [hz, hb, hb.ok, eqv_str]
            | _ => simp [wordB, madeB, hb.bi]
          · have n3 : ¬ ((2 : Int) = 3) := by decide
            have n4 : ¬ ((2 : Int) = 4) := by decide
            by_cases h2 : wd = "copy"
            · subst h2; simp [pieceB, pieceT, ne_2, inD_cons, inD_nil, n4]
            · simp [pieceB, pieceT, h1, h2, inD_cons, inD_nil, n3]
        · have hc := hg c (by simp)
          by_cases h1 : wd = "word"
          · subst h1; simp [pieceB, pieceT, ne_ws]
          · by_cases h2 : wd = "see"
            · subst h2; simp [pieceB, pieceT, ne_sw, ne_sc, inD_cons, inD_nil, hb, hc]; cases q1 : nameB b <;> cases q2 : nameB c <;> simp
            · by_cases h3 : wd = "copy"
              · subst h3; simp [pieceB, pieceT, ne_2, ne_3, inD_cons, inD_nil]
              · simp [pieceB, pieceT, h1, h2, h3, inD_cons, inD_nil]
        · have hc := hg c (by simp)
          have hd := hg d (by simp)
          have ld := LV.of hd
          have n3 : ¬ ((4 : Int) = 3) := by decide
          by_cases h1 : wd = "word"
          · subst h1; simp [pieceB, pieceT, ne_wc]
          · by_cases h2 : wd = "copy"
            · subst h2; simp [pieceB, pieceT, ne_2, ne_3, inD_cons, inD_nil, hb, hc, ld]
              cases q1 : nameB b
              · simp
              · cases q2 : nameB c
                · simp
                · cases d with
                  | int i => simp [wholeB]; walk_at "w"; simp; omega
                  | _ => simp [wholeB, D.isI]
            · simp [pieceB, pieceT, h1, h2, inD_cons, inD_nil, n3]
        · have e2 : ¬ ((l.length : Int) + 1 + 1 + 1 + 1 + 1 = 2) := by omega
          have e3 : ¬ ((l.length : Int) + 1 + 1 + 1 + 1 + 1 = 3) := by omega
          have e4 : ¬ ((l.length : Int) + 1 + 1 + 1 + 1 + 1 = 4) := by omega
          have e5 : ¬ ((l.length : Int) + 1 + 1 + 1 + 1 + 1 = 3 + 1) := by omega
          by_cases h2 : wd = "copy"
          · subst h2; simp [pieceB, pieceT, ne_2, inD_cons, inD_nil, e2, e3, e4, e5]
          · simp [pieceB, pieceT, h2, inD_cons, inD_nil, e2, e3, e4, e5]
      | _ => simp [pieceB, (hg _ List.mem_cons_self).bi]; (try walk_at "w"); (try simp [(hg _ List.mem_cons_self).bi]); (try omega)
  | _ => simp [hp.bi, pieceB]
theorem c_law_is_piece (X : Defs K mg a_QUOTING a_BadBody i_BadBody) (T : Txt K mg a_QUOTING a_BadBody i_BadBody) : Cal P w K mg base "_law_is_piece" 3 ["piece"] [] (SpP K pre_law_is_piece post_law_is_piece) := by
  have c_law_is_plain := c_law_is_plain (P := P) (w := w) (base := base) X T
  have c_law_is_any_name := c_law_is_any_name (P := P) (w := w) (base := base) X T
  have c_law_is_whole := c_law_is_whole (P := P) (w := w) (base := base) X T
  refine cal_W (N := N_law_is_piece) (u_law_is_piece T) X.d_law_is_piece sc_law_is_piece (fun ds h => ?_) (fun f cdv A outer s H E hr ng => ⟨_, (pss_cons (ps_if (PW.pt (pw_or (pt_not (pt_val (pe_callB (call_isik (K := K)) (by rfl) T.b_isinstance (by decide +kernel) (pa_cons (pv 0) (pa_cons (pe_bltn (v := .ty "tuple") (by rfl) T.b_tuple (by decide +kernel) rfl) pa_nil))))) (pw_or (pt_cmpR op_lt (pe_callB (call_lenk (K := K)) (by rfl) T.b_len (by decide +kernel) (pa_cons (pv 0) pa_nil)) pe_int (nomark _)) (pw_or1 (pt_not (pt_val (pe_callB (call_isik (K := K)) (by rfl) T.b_isinstance (by decide +kernel) (pa_cons (pe_ix (ix_seqk (K := K)) (pv 0) pe_int (fun _ _ => rfl)) (pa_cons (pe_bltn (v := .ty "str") (by rfl) T.b_str (by decide +kernel) rfl) pa_nil))))))))) (pss_one (ps_ret pe_bl)) pss_nil)
 (pss_cons (ps_if (pt_cmpR (op_eqDk (K := K) (Room.units hr)) (pe_ix (ix_seqk (K := K)) (pv 0) pe_int (fun _ _ => rfl)) pe_str (nomark _)) (pss_one (ps_ret (pe_and (pe_cmpR (op_eqDk (K := K) (Room.units hr)) (pe_callB (call_lenk (K := K)) (by rfl) T.b_len (by decide +kernel) (pa_cons (pv 0) pa_nil)) pe_int (nomark _)) (pe_and (pe_callB (call_isik (K := K)) (by rfl) T.b_isinstance (by decide +kernel) (pa_cons (pe_ix (ix_seqk (K := K)) (pv 0) pe_int (fun _ _ => rfl)) (pa_cons (pe_bltn (v := .ty "str") (by rfl) T.b_str (by decide +kernel) rfl) pa_nil))) (pe_and (pe_cmpR (op_neDk (K := K) (Room.units hr)) (pe_ix (ix_seqk (K := K)) (pv 0) pe_int (fun _ _ => rfl)) pe_str (nomark _)) (pe_one (peg_cal c_law_is_plain hr (by decide) ng rfl (pa_cons (pe_ix (ix_seqk (K := K)) (pv 0) pe_int (fun _ _ => rfl)) pa_nil)))))))) pss_nil)
 (pss_cons (ps_if (PW.pt (pw_or (pt_cmpR (op_ninUk (K := K)) (pe_ix (ix_seqk (K := K)) (pv 0) pe_int (fun _ _ => rfl)) (pe_lst (pa_cons pe_str (pa_cons pe_str pa_nil))) (by rfl)) (pw_or1 (pt_cmpR (op_neDk (K := K) (Room.units hr)) (pe_callB (call_lenk (K := K)) (by rfl) T.b_len (by decide +kernel) (pa_cons (pv 0) pa_nil)) (pe_op (op_addUk (K := K)) pe_int (pe_callTy call_int1 (by rfl) T.b_int (by decide +kernel) (pa_cons (pe_cmpR (op_eqDk (K := K) (Room.units hr)) (pe_ix (ix_seqk (K := K)) (pv 0) pe_int (fun _ _ => rfl)) pe_str (nomark _)) pa_nil))) (nomark _))))) (pss_one (ps_ret pe_bl)) pss_nil)
 (pss_cons (ps_if (PW.pt (pw_or (pt_not (pt_val (peg_cal c_law_is_any_name hr (by decide) ng rfl (pa_cons (pe_ix (ix_seqk (K := K)) (pv 0) pe_int (fun _ _ => rfl)) pa_nil)))) (pw_or1 (pt_not (pt_val (peg_cal c_law_is_any_name hr (by decide) ng rfl (pa_cons (pe_ix (ix_seqk (K := K)) (pv 0) pe_int (fun _ _ => rfl)) pa_nil))))))) (pss_one (ps_ret pe_bl)) pss_nil)
 (pss_one (ps_ret (pe_or (pe_cmpR (op_eqDk (K := K) (Room.units hr)) (pe_ix (ix_seqk (K := K)) (pv 0) pe_int (fun _ _ => rfl)) pe_str (nomark _)) (pe_one (pe_and (peg_cal c_law_is_whole hr (by decide) ng rfl (pa_cons (pe_ix (ix_seqk (K := K)) (pv 0) pe_int (fun _ _ => rfl)) pa_nil)) (pe_one (pe_cmpR op_gt (pe_ix (ix_seqk (K := K)) (pv 0) pe_int (fun _ _ => rfl)) pe_int (nomark _)))))))))))), by dsimp only [u_law_is_piece, DL.WE.sset, DL.WE.join, DL.WE.ixO, DL.WS.setAt, DL.WF.lc, DL.WF.list, DL.WS.asgF, DL.WS.par3, DL.WS.par3F, DL.WI.enumU, DL.ON.sortedE, DL.ON.int2, DL.WS.raiseO, DL.WE.xf, DL.WS.tryAsg, DL.WS.asgLend, DL.WE.lam, DL.WS.fld, DL.WE.fldR, DL.WE.mkX, DL.WE.isC, DL.O2.eqO, DL.O2.neO, DL.WE.borrowD, DL.WS.asgIteL, DL.WDK.nil, DL.WDK.cons, DL.WE.dispK, DL.WS.tryMk, DL.WE.mkE, DL.WE.fldE, DL.WE.isE, DL.WE.mkE0, DL.WE.fldX, DL.WE.pvar, DL.WS.name, DL.WS.tell, DL.WS.appendO, DL.O2.int, DL.O2.cmp, DL.O2.intC, DL.O2.add, DL.O2.mul, DL.O2.eq, DL.O2.ne, DL.O2.neS, DL.O2.eqS, DL.O2.isU, DL.O2.notU, DL.O2.inn, DL.O2.nin, DL.O2.innE, DL.O2.ninE, DL.O2.ix, DL.ON.len, DL.ON.list, DL.ON.tuple, DL.ON.all, DL.ON.any, DL.ON.sum, DL.ON.sortedS, DL.ON.min2, DL.ON.max2, DL.ON.int1, DL.ON.strI, DL.ON.repr, DL.WE.var, DL.WE.int, DL.WE.bl, DL.WE.str, DL.WE.non, DL.WE.ktup, DL.WE.op, DL.WE.neg, DL.WE.chain, DL.WA.nil, DL.WA.cons, DL.WE.tup, DL.WE.lst, DL.WT.tst, DL.WT.b, DL.WT.not, DL.WT.yes, DL.WT.and, DL.WT.or, DL.WE.andV, DL.WE.orV, DL.WE.notV, DL.WE.ite, DL.WO.none, DL.WO.some, DL.WE.sl, DL.WE.cb, DL.WE.isi, DL.WE.isi2, DL.WE.call, DL.WE.callD, DL.WE.callX, DL.WE.callG, DL.WE.split, DL.WE.dget, DL.WD.nil, DL.WD.cons, DL.WE.disp, DL.WI.seq, DL.WI.rng1, DL.WI.rng2, DL.WI.enum, DL.WI.zip, DL.WG.name, DL.WG.tup, DL.WG.seq, DL.WE.lc, DL.WE.borrow, DL.WM.up, DL.WM.popAt, DL.WS.next, DL.WS.brk, DL.WS.cont, DL.WS.seq, DL.WS.ret, DL.WS.retN, DL.WS.asg, DL.WS.asgT, DL.WS.asgOwn, DL.WS.drop, DL.WS.ifS, DL.WS.frz, DL.WS.append, DL.WS.forS, DL.WS.par, DL.WS.parLE, DL.WE.isP, DL.WE.isX, DL.WS.tryRaise, DL.WS.tryRaise0, DL.WS.parOL]⟩) rfl fun ds hp => ?_
  · match ds, h with
    | [_], _ => rfl
  · match ds, hp with
    | [piece_], hp => exact w_at (u_law_is_piece T) (v_law_is_piece T hp) rfl rfl rfl
end
end K67
set_option maxRecDepth 100000
set_option maxHeartbeats 8000000
namespace K67
open PySem L2 PyProof.Rows DL
section
variable {P : Program} {w : World} {K : PySem.W.Frag} {mg : Str → Option Value} {base : Heap} {a_QUOTING a_BadBody i_BadBody : Addr}
local macro_rules | `(tactic| walk_at "w") => `(tactic| simp (config := { maxSteps := 10000000 }) only [DL.sub_un, DL.sub_pen, DL.sub_dat, DL.dsub_non, DL.dsub_bl, DL.dsub_int, DL.dsub_str, DL.dsub_ptr, DL.dsub_lst, DL.dsub_tup, DL.dsub_err, DL.dsubs_nil, DL.dsubs_cons, DL.w_isX, DL.w_isP, DL.w_sset, DL.w_enumU, DL.n_sortedE, DL.w_join, DL.w_ixO, DL.w_setAt, DL.ownI_0, DL.ownI_s, DL.w_wflc, DL.w_wflist, DL.w_asgF, DL.w_par3, DL.w_par3F, DL.w_lam, DL.w_toldA, DL.np_un, DL.np_dat, DL.np_own, DL.np_pen, DL.w_tryRaise, DL.chW_cons, DL.w_tryRaise0, DL.ch0_cons, DL.w_parOL, DL.owAt_0, DL.owAt_s, DL.w_pvar, DL.w_name, DL.w_tell, DL.w_appendO, DL.w_mkE, DL.w_mkE0, DL.w_fldX, DL.w_var, DL.w_int, DL.w_bl, DL.w_str, DL.w_non, DL.w_ktup, DL.w_op, DL.w_neg, DL.w_chain, DL.w_nil, DL.w_cons, DL.w_tup, DL.w_lst, DL.w_tst, DL.w_tb, DL.w_not, DL.w_yes, DL.w_and, DL.w_or, DL.w_andV, DL.w_orV, DL.w_notV, DL.w_ite, DL.w_none, DL.w_some, DL.w_sl, DL.w_cb, DL.w_isi, DL.w_isi2, DL.w_call, DL.w_callD, DL.w_callX, DL.w_callG, DL.w_split, DL.w_dget, DL.w_knil, DL.w_kcons, DL.w_dispK, DL.w_seqI, DL.w_rng1, DL.w_rng2, DL.w_enum, DL.w_zip, DL.w_lc, DL.w_borrow, DL.w_up, DL.w_popAt, DL.w_next, DL.w_brk, DL.w_cont, DL.w_seq, DL.w_ret, DL.w_retN, DL.w_asg, DL.w_asgT, DL.w_asgOwn, DL.w_drop, DL.w_ifS, DL.w_append, DL.w_raiseO, DL.w_xf, DL.w_tryAsg, DL.w_mkX, DL.w_fldR, DL.w_fld, DL.w_isC, DL.q_eqO, DL.q_neO, DL.w_tryMk, DL.slfAt_0, DL.slfAt_s, DL.w_asgLend, DL.lendAt_o, DL.lendAt_d, DL.lendAt_s, DL.w_borrowD, DL.w_asgIteL, DL.w_frz, frzAt_0, frzAt_d, frzAt_u, frzAt_s, DL.w_forS, DL.w_par, DL.w_parLE,
  DL.q_int, DL.q_cmp, DL.q_intC, DL.q_addI, DL.q_addS, DL.q_addT, DL.q_addL, DL.q_mulI, DL.q_mulS, DL.q_mulL, DL.q_eq, DL.q_ne, DL.q_isN, DL.q_isB, DL.q_notN, DL.q_inT, DL.q_inL, DL.q_inS, DL.q_ninT, DL.q_ninL, DL.q_ninS, DL.q_ixL, DL.q_ixT, DL.q_ixS, DL.n_len, DL.n_list, DL.n_tuple, DL.n_all, DL.n_any, DL.n_sum, DL.n_sortedS, DL.n_min2, DL.n_max2, DL.n_int1, DL.n_int2, DL.n_int2b, DL.q_neS, DL.q_innE, DL.q_ninE, DL.w_dct0, DL.q_eqS, DL.n_strI, DL.n_repr, DL.g_name, DL.is_name, DL.is_tupG, DL.is_seqG, DL.is_consG, DL.is_nilG, cut_tup, cut_lst,  isi_str, isi_int, isi_bool, isi_tuple, isi_list,
  datAt_0, datAt_s, ownAt_0, ownAt_s, penIs_0, penIs_s, setD_nil, setD_cons, wipeG, List.set_cons_zero, List.set_cons_succ, List.set_nil, List.map_cons, List.map_nil, List.cons_append, List.nil_append,
  D.bl.injEq, D.int.injEq, D.str.injEq, exists_eq_left', exists_eq_left, exists_and_left, exists_eq', exists_eq, true_and, and_true, true_imp_iff, false_imp_iff, Bool.true_eq_false, Bool.false_eq_true, forall_const, Bool.not_true, Bool.not_false, List.length_cons, List.length_nil, eqv_str, eqv_int, ok_int, ok_bl, ok_non, forall_eq, atI_0, atI_1, atI_2, atI_3, List.getElem?_cons_zero, List.getElem?_cons_succ, List.getElem?_nil, Option.some.injEq, Sk.own.injEq, len_tup, len_lst, its_tup, its_lst, itemsOf_tup, itemsOf_lst, itemsOf_str, isS_str, isT_tup, isL_lst, isI_int, isB_bl, builtin_str, builtin_tup, builtin_lst, builtin_int, builtin_bl, builtin_non, D.sign_one, List.all_cons, List.all_nil, Bool.and_true])

abbrev pre_law_is_right_body : List D → Prop
  | [value_] => BVb value_
  | _ => False
abbrev post_law_is_right_body : List D → D → Prop
  | [value_], r => r = .bl (bodyB value_)
  | _, _ => False
def u_law_is_right_body (T : Txt K mg a_QUOTING a_BadBody i_BadBody) : WS K L2.E0 := (WS.ret (WM.up (WE.andV (WE.isi "tuple" (WE.var 0)) (WE.andV (WE.op (O2.cmp fun i j => decide (i ≤ j)) (WE.cb ON.len (WA.cons (WE.var 0) WA.nil)) (WE.int 20)) (WE.op O2.eqS (WE.lc (WI.seq (WE.var 0)) (WG.name 1) (WT.not (WT.b (WE.call pre_law_is_piece post_law_is_piece (WA.cons (WE.var 1) WA.nil)))) (WE.var 1) 999999) (WE.lst WA.nil))))))
theorem v_law_is_right_body {value_ : D} (T : Txt K mg a_QUOTING a_BadBody i_BadBody) (hp : BVb value_) : (u_law_is_right_body T).w noX [.dat value_, .un] (retW fun r => r = .bl (bodyB value_)) := by
  unfold u_law_is_right_body
  walk_at "w"
  try simp only [pre_law_is_piece, post_law_is_piece]
  try walk_at "w"
  try simp only [pre_law_is_piece, post_law_is_piece]
  try walk_at "w"

  cases value_ with
  | tup ds =>
    have hg := hp.it
    simp only [builtin_tup, isT_tup, true_and, true_imp_iff, Bool.true_eq_false, false_imp_iff, and_true, len_tup, Option.some.injEq, exists_eq_left', itemsOf_tup]
    refine ⟨fun h => ?_, fun h => ?_⟩
    · have h' : ds.length ≤ 20 := by have := of_decide_eq_true h; omega
      refine LcP.filt (fun d => !pieceB d) id (by omega) (fun d hd => ⟨_, rfl, ?_, fun _ => ?_⟩) ⟨by decide, .inr ⟨_, rfl, ?_⟩⟩
      · walk_at "w"
        exact hg d hd
      · walk_at "w"
        rfl
      · rw [filter_empty]; simp [bodyB, h', Function.comp_def]
    · have h' : ¬ ds.length ≤ 20 := by have := of_decide_eq_false h; omega
      simp [bodyB, h']
  | _ => simp [hp.bi, bodyB]
theorem c_law_is_right_body (X : Defs K mg a_QUOTING a_BadBody i_BadBody) (T : Txt K mg a_QUOTING a_BadBody i_BadBody) : Cal P w K mg base "_law_is_right_body" 4 ["value"] [] (SpP K pre_law_is_right_body post_law_is_right_body) := by
  have c_law_is_piece := c_law_is_piece (P := P) (w := w) (base := base) X T
  refine cal_W (N := N_law_is_right_body) (u_law_is_right_body T) X.d_law_is_right_body sc_law_is_right_body (fun ds h => ?_) (fun f cdv A outer s H E hr ng => ⟨_, (pss_one (ps_ret (pe_and (pe_callB (call_isik (K := K)) (by rfl) T.b_isinstance (by decide +kernel) (pa_cons (pv 0) (pa_cons (pe_bltn (v := .ty "tuple") (by rfl) T.b_tuple (by decide +kernel) rfl) pa_nil))) (pe_and (pe_cmpR op_le (pe_callB (call_lenk (K := K)) (by rfl) T.b_len (by decide +kernel) (pa_cons (pv 0) pa_nil)) pe_int (nomark _)) (pe_one (pe_cmpR (op_eqSk (K := K) (Room.units hr)) (pe_lc (own := [("piece", 1)]) (g := (gName 1)) (by rfl) sc_law_is_right_body.nd (pi_seqk (K := K) (pv 0)) (blkOk_by (own := [("piece", 1)]) (N := N_law_is_right_body) (sc := defScope s_law_is_right_body) (by decide +kernel)) (fun _ _ _ _ _ => (pg_name (i := 1) sc_law_is_right_body.nd rfl (Or.inl rfl))) (fun _ _ _ _ _ => (pts_one (pt_not (pt_val (peg_cal c_law_is_piece hr (by decide) ng rfl (pa_cons (pv 1) pa_nil)))))) (fun _ _ _ _ _ => (pv 1))) (pe_lst pa_nil) (nomark _))))))), rfl⟩) rfl fun ds hp => ?_
  · match ds, h with
    | [_], _ => rfl
  · match ds, hp with
    | [value_], hp => exact w_at (u_law_is_right_body T) (v_law_is_right_body T hp) rfl rfl rfl
end
end K67
set_option maxRecDepth 100000
set_option maxHeartbeats 8000000
namespace K67
open PySem L2 PyProof.Rows DL
section
variable {P : Program} {w : World} {K : PySem.W.Frag} {mg : Str → Option Value} {base : Heap} {a_QUOTING a_BadBody i_BadBody : Addr}
local macro_rules | `(tactic| walk_at "w") => `(tactic| simp (config := { maxSteps := 10000000 }) only [DL.sub_un, DL.sub_pen, DL.sub_dat, DL.dsub_non, DL.dsub_bl, DL.dsub_int, DL.dsub_str, DL.dsub_ptr, DL.dsub_lst, DL.dsub_tup, DL.dsub_err, DL.dsubs_nil, DL.dsubs_cons, DL.w_isX, DL.w_isP, DL.w_sset, DL.w_enumU, DL.n_sortedE, DL.w_join, DL.w_ixO, DL.w_setAt, DL.ownI_0, DL.ownI_s, DL.w_wflc, DL.w_wflist, DL.w_asgF, DL.w_par3, DL.w_par3F, DL.w_lam, DL.w_toldA, DL.np_un, DL.np_dat, DL.np_own, DL.np_pen, DL.w_tryRaise, DL.chW_cons, DL.w_tryRaise0, DL.ch0_cons, DL.w_parOL, DL.owAt_0, DL.owAt_s, DL.w_pvar, DL.w_name, DL.w_tell, DL.w_appendO, DL.w_mkE, DL.w_mkE0, DL.w_fldX, DL.w_var, DL.w_int, DL.w_bl, DL.w_str, DL.w_non, DL.w_ktup, DL.w_op, DL.w_neg, DL.w_chain, DL.w_nil, DL.w_cons, DL.w_tup, DL.w_lst, DL.w_tst, DL.w_tb, DL.w_not, DL.w_yes, DL.w_and, DL.w_or, DL.w_andV, DL.w_orV, DL.w_notV, DL.w_ite, DL.w_none, DL.w_some, DL.w_sl, DL.w_cb, DL.w_isi, DL.w_isi2, DL.w_call, DL.w_callD, DL.w_callX, DL.w_callG, DL.w_split, DL.w_dget, DL.w_knil, DL.w_kcons, DL.w_dispK, DL.w_seqI, DL.w_rng1, DL.w_rng2, DL.w_enum, DL.w_zip, DL.w_lc, DL.w_borrow, DL.w_up, DL.w_popAt, DL.w_next, DL.w_brk, DL.w_cont, DL.w_seq, DL.w_ret, DL.w_retN, DL.w_asg, DL.w_asgT, DL.w_asgOwn, DL.w_drop, DL.w_ifS, DL.w_append, DL.w_raiseO, DL.w_xf, DL.w_tryAsg, DL.w_mkX, DL.w_fldR, DL.w_fld, DL.w_isC, DL.q_eqO, DL.q_neO, DL.w_tryMk, DL.slfAt_0, DL.slfAt_s, DL.w_asgLend, DL.lendAt_o, DL.lendAt_d, DL.lendAt_s, DL.w_borrowD, DL.w_asgIteL, DL.w_frz, frzAt_0, frzAt_d, frzAt_u, frzAt_s, DL.w_forS, DL.w_par, DL.w_parLE,
  DL.q_int, DL.q_cmp, DL.q_intC, DL.q_addI, DL.q_addS, DL.q_addT, DL.q_addL, DL.q_mulI, DL.q_mulS, DL.q_mulL, DL.q_eq, DL.q_ne, DL.q_isN, DL.q_isB, DL.q_notN, DL.q_inT, DL.q_inL, DL.q_inS, DL.q_ninT, DL.q_ninL, DL.q_ninS, DL.q_ixL, DL.q_ixT, DL.q_ixS, DL.n_len, DL.n_list, DL.n_tuple, DL.n_all, DL.n_any, DL.n_sum, DL.n_sortedS, DL.n_min2, DL.n_max2, DL.n_int1, DL.n_int2, DL.n_int2b, DL.q_neS, DL.q_innE, DL.q_ninE, DL.w_dct0, DL.q_eqS, DL.n_strI, DL.n_repr, DL.g_name, DL.is_name, DL.is_tupG, DL.is_seqG, DL.is_consG, DL.is_nilG, cut_tup, cut_lst,  isi_str, isi_int, isi_bool, isi_tuple, isi_list,
  datAt_0, datAt_s, ownAt_0, ownAt_s, penIs_0, penIs_s, setD_nil, setD_cons, wipeG, List.set_cons_zero, List.set_cons_succ, List.set_nil, List.map_cons, List.map_nil, List.cons_append, List.nil_append,
  D.bl.injEq, D.int.injEq, D.str.injEq, exists_eq_left', exists_eq_left, exists_and_left, exists_eq', exists_eq, true_and, and_true, true_imp_iff, false_imp_iff, Bool.true_eq_false, Bool.false_eq_true, forall_const, Bool.not_true, Bool.not_false, List.length_cons, List.length_nil, eqv_str, eqv_int, ok_int, ok_bl, ok_non, forall_eq, atI_0, atI_1, atI_2, atI_3, List.getElem?_cons_zero, List.getElem?_cons_succ, List.getElem?_nil, Option.some.injEq, Sk.own.injEq, len_tup, len_lst, its_tup, its_lst, itemsOf_tup, itemsOf_lst, itemsOf_str, isS_str, isT_tup, isL_lst, isI_int, isB_bl, builtin_str, builtin_tup, builtin_lst, builtin_int, builtin_bl, builtin_non, D.sign_one, List.all_cons, List.all_nil, Bool.and_true])

abbrev m_law_draw : Nat := 1
abbrev pre_law_draw : List D → Prop
  | [.int n] => 0 < n ∧ n < 1073741824
  | _ => False
abbrev post_law_draw : List D → D → Prop
  | [.int n], r => ∃ k : Int, r = .int k ∧ 0 ≤ k ∧ k < n
  | _, _ => False
theorem c_law_draw (X : Defs K mg a_QUOTING a_BadBody i_BadBody) (T : Txt K mg a_QUOTING a_BadBody i_BadBody) : Cal P w K mg base "_law_draw" 1 ["pen", "many"] [] (SpG K m_law_draw pre_law_draw post_law_draw) := by
  refine cal_raw (N := N_law_draw) X.d_law_draw sc_law_draw (fun vs H Q E h => ?_) (fun f cdv A outer s H vs Q E hr ng h => ?_)
  · obtain ⟨a, cc, vs', Hd, ds, n, rfl, sa, pe, hn, r, hp, _⟩ := h
    rw [List.length_cons, r.length]
    match ds, hp with
    | [.int _], _ => rfl
  · obtain ⟨a, cc, vs', Hd, ds, n, rfl, sa, pe, hn, r, hp, q⟩ := h
    match ds, hp with
    | [.int many], hp =>
      refine ⟨tDraw K, (pss_cons (ps_dput (hu_of hr) (pv 0) pe_str (pe_op (op_addUk (K := K)) (pe_dget (hu_of hr) (pv 0) pe_str (fun _ _ => rfl)) pe_int) rfl)
 (pss_cons (ps_if (PW.pt (pw_and (pt_cmpR (op_eqDk (K := K) (Room.units hr)) (pe_dget (hu_of hr) (pv 0) pe_str (fun _ _ => rfl)) pe_int (nomark _)) (pw_and1 (pt_cmpR op_lt (pe_dget (hu_of hr) (pv 0) pe_str (fun _ _ => rfl)) (pe_callB (call_lenk (K := K)) (by rfl) T.b_len (by decide +kernel) (pa_cons (pe_dget (hu_of hr) (pv 0) pe_str (fun _ _ => rfl)) pa_nil)) (nomark _))))) (pss_cons (ps_set (i := 2) sc_law_draw.nd rfl (Or.inl rfl) (pe_ix (ix_seqk (K := K)) (pe_dget (hu_of hr) (pv 0) pe_str (fun _ _ => rfl)) (pe_dget (hu_of hr) (pv 0) pe_str (fun _ _ => rfl)) (fun _ _ => rfl)))
 (pss_cons (ps_dput (hu_of hr) (pv 0) pe_str (pe_op (op_addUk (K := K)) (pe_dget (hu_of hr) (pv 0) pe_str (fun _ _ => rfl)) pe_int) rfl)
 (pss_one (ps_if (pt_cmpR op_ge (pv 2) (pe_op op_pow pe_int pe_int) (nomark _)) (pss_one (ps_dput (hu_of hr) (pv 0) pe_str (pe_op op_sub (pv 2) (pe_op op_pow pe_int pe_int)) rfl)) (pss_one (ps_dput (hu_of hr) (pv 0) pe_str (pe_op op_mod (pe_callTy call_int1 (by rfl) T.b_int (by decide +kernel) (pa_cons (pe_op (op_addUk (K := K)) (pe_op (op_mulUk (K := K)) (pe_dget (hu_of hr) (pv 0) pe_str (fun _ _ => rfl)) pe_int) (pv 2)) pa_nil)) pe_int) rfl)))))) pss_nil)
 (pss_cons (ps_if (pt_cmpR op_gt (pe_dget (hu_of hr) (pv 0) pe_str (fun _ _ => rfl)) pe_int (nomark _)) (pss_cons (ps_set (i := 3) sc_law_draw.nd rfl (Or.inl rfl) (pe_op op_mod (pe_callTy call_int1 (by rfl) T.b_int (by decide +kernel) (pa_cons (pe_dget (hu_of hr) (pv 0) pe_str (fun _ _ => rfl)) pa_nil)) (pv 1)))
 (pss_cons (ps_dput (hu_of hr) (pv 0) pe_str (pe_op op_fdiv (pe_dget (hu_of hr) (pv 0) pe_str (fun _ _ => rfl)) (pv 1)) rfl)
 (pss_one (ps_ret (pv 3))))) pss_nil)
 (pss_cons (ps_set (i := 4) sc_law_draw.nd rfl (Or.inl rfl) (pe_op (op_addUk (K := K)) (pe_op (op_addUk (K := K)) (pe_dget (hu_of hr) (pv 0) pe_str (fun _ _ => rfl)) (pe_op (op_mulUk (K := K)) (pe_dget (hu_of hr) (pv 0) pe_str (fun _ _ => rfl)) pe_int)) pe_int))
 (pss_one (ps_ret (pe_op op_mod (pe_op op_fdiv (pe_callTy call_int1 (by rfl) T.b_int (by decide +kernel) (pa_cons (pe_op op_mod (pe_op op_pow (pv 4) pe_int) pe_int) pa_nil)) pe_int) (pv 1)))))))), ?_⟩
      cases r with | cons r1 r2 => cases r1; cases r2; exact draw_ok sa pe hn hp.1 hp.2 fun v d Hd' H' g pe' f r => q v d Hd' H' g pe' (by obtain ⟨n, k, e1, e2, e3, e4⟩ := f; cases e1; exact ⟨k, e2, e3, e4⟩) r
/-! ### drawn things -/

abbrev m_law_pick : Nat := 1
abbrev pre_law_pick : List D → Prop
  | [some_] => (∃ ds, some_.its = some ds ∧ 0 < ds.length ∧ ds.length < 1000) ∨ ∃ z, some_ = .str z ∧ 0 < z.length ∧ z.length < 1000
  | _ => False
abbrev post_law_pick : List D → D → Prop
  | [some_], r => (∃ ds, some_.its = some ds ∧ r ∈ ds) ∨ ∃ z c, some_ = .str z ∧ c ∈ z.cps.toList ∧ r = .str ⟨#[c]⟩
  | _, _ => False
def u_law_pick (T : Txt K mg a_QUOTING a_BadBody i_BadBody) : WS K L2.E0 := (WS.ret (WM.up (WE.op O2.ix (WE.var 1) (WE.callG m_law_draw pre_law_draw post_law_draw 0 (WA.cons (WE.cb ON.len (WA.cons (WE.var 1) WA.nil)) WA.nil)))))
theorem v_law_pick {some_ : D} (T : Txt K mg a_QUOTING a_BadBody i_BadBody) (hp : (∃ ds, some_.its = some ds ∧ 0 < ds.length ∧ ds.length < 1000) ∨ ∃ z, some_ = .str z ∧ 0 < z.length ∧ z.length < 1000) : (u_law_pick T).w noX [.pen, .dat some_] (retW fun r => (∃ ds, some_.its = some ds ∧ r ∈ ds) ∨ ∃ z c, some_ = .str z ∧ c ∈ z.cps.toList ∧ r = .str ⟨#[c]⟩) := by
  unfold u_law_pick
  walk_at "w"
  try simp only [pre_law_draw, post_law_draw]
  try walk_at "w"
  try simp only [pre_law_draw, post_law_draw]
  try walk_at "w"

  rcases hp with ⟨ds, he, h0, h1⟩ | ⟨z, rfl, h0, h1⟩
  · refine ⟨ds.length, its_len he, ⟨by omega, by omega⟩, ?_⟩
    rintro d ⟨k, rfl, k0, k1⟩
    exact ix_its he k0 k1 fun x hx => .inl ⟨ds, he, hx⟩
  · refine ⟨z.length, len_str (by omega), ⟨by omega, by omega⟩, ?_⟩
    rintro d ⟨k, rfl, k0, k1⟩
    exact ix_strs (by omega) k0 k1 fun c hc => .inr ⟨z, rfl, c, hc, rfl⟩
theorem c_law_pick (X : Defs K mg a_QUOTING a_BadBody i_BadBody) (T : Txt K mg a_QUOTING a_BadBody i_BadBody) : Cal P w K mg base "_law_pick" 2 ["pen", "some"] [] (SpG K m_law_pick pre_law_pick post_law_pick) := by
  have c_law_draw := c_law_draw (P := P) (w := w) (base := base) X T
  refine cal_WG (N := N_law_pick) (u_law_pick T) X.d_law_pick sc_law_pick (fun ds h => ?_) (fun f cdv A outer s H E hr ng => ⟨_, (pss_one (ps_ret (pe_ix (ix_seqk (K := K)) (pv 1) (peg_cal c_law_draw hr (by decide) ng rfl (pa_cons (pv 0) (pa_cons (pe_callB (call_lenk (K := K)) (by rfl) T.b_len (by decide +kernel) (pa_cons (pv 1) pa_nil)) pa_nil))) (fun _ _ => rfl)))), rfl⟩) (Nat.le_of_eq rfl) fun ds hp => ?_
  · match ds, h with
    | [_], _ => rfl
  · match ds, hp with
    | [some_], hp => exact w_at (u_law_pick T) (v_law_pick T hp) rfl rfl rfl
theorem pick_l {ds : List D} {d : D} (h : d ∈ ds ∨ ∃ z : Str, D.lst ds = D.str z ∧ ∃ x, x ∈ z.cps.toList ∧ d = D.str { cps := #[x] }) : d ∈ ds := by
  rcases h with h | ⟨z, e, _⟩
  · exact h
  · cases e
theorem ints_of {is : List Int} {d : D} (h : d ∈ is.map D.int) : ∃ i ∈ is, d = .int i := by
  obtain ⟨i, hi, rfl⟩ := List.mem_map.mp h
  exact ⟨i, hi, rfl⟩
theorem pow10 (n : Nat) (h : n ≤ 40) : (10 : Int) ^ n ≤ 10 ^ 40 := by
  have q : ∀ k : Fin 41, (10 : Int) ^ (k : Nat) ≤ 10 ^ 40 := by decide +kernel
  exact q ⟨n, by omega⟩
theorem gdB {k n : Nat} {i : Int} (h : -(2 ^ 400) < i ∧ i < 2 ^ 400) (b : 1930 ≤ n := by decide) : GD k n (.int i) := by
  refine .int ?_ b
  by_cases z : i.natAbs = 0
  · rw [z]; decide
  · have h2 : i.natAbs < 2 ^ 400 := by omega
    have := (Nat.log2_lt z).mpr h2
    omega
theorem gd40 {k n : Nat} {i : Int} (h0 : 0 ≤ i) (h1 : i < 10 ^ 40) (b : 1930 ≤ n := by decide) : GD k n (.int i) := by
  refine gdB ⟨by omega, Int.lt_trans h1 (by decide +kernel)⟩ b
theorem pick_s {z : Str} {d : D} (hz : PyData.strOk z = true) (h : (∃ ds, (D.str z).its = some ds ∧ d ∈ ds) ∨ ∃ x, x ∈ z.cps.toList ∧ d = D.str { cps := #[x] }) : SO 1 d := by
  rcases h with ⟨ds, e, _⟩ | ⟨x, hx, rfl⟩
  · cases e
  · exact SO.sgn hz hx
theorem pick_p {z : Str} {d : D} (hz : PyData.strOk z = true) (h : post_law_pick [.str z] d) : SO 1 d := by
  rcases h with ⟨ds, e, _⟩ | ⟨z', c, e, hx, rfl⟩
  · cases e
  · cases e; exact SO.sgn hz hx
theorem sos {n : Nat} : ∀ {es : List D}, (∀ e ∈ es, SO n e) → ∃ ys : List Str, es = ys.map D.str ∧ (ys.map (·.length)).sum ≤ n * ys.length ∧ ∀ y ∈ ys, PyData.strOk y = true
  | [], _ => ⟨[], rfl, by simp, fun y h => nomatch h⟩
  | e :: es, h => by
    obtain ⟨ys, rfl, h1, h2⟩ := sos fun x hx => h x (List.mem_cons_of_mem _ hx)
    obtain ⟨z, rfl, h3, h4⟩ := h e List.mem_cons_self
    refine ⟨z :: ys, rfl, ?_, fun y hy => ?_⟩
    · rw [List.map_cons, List.sum_cons, List.length_cons, Nat.mul_succ]; omega
    · rcases List.mem_cons.mp hy with q | q
      · rw [q]; exact h3
      · exact h2 y q
theorem sjoin_so : ∀ ys : List Str, (∀ y ∈ ys, PyData.strOk y = true) → PyData.strOk (Str.join "" ys) = true ∧ (Str.join "" ys).length = (ys.map (·.length)).sum
  | [], _ => ⟨by decide +kernel, rfl⟩
  | [x], h => ⟨h x List.mem_cons_self, by show x.length = _; simp⟩
  | x :: z :: r, h => by
    obtain ⟨h1, h2⟩ := sjoin_so (z :: r) fun y hy => h y (List.mem_cons_of_mem _ hy)
    have e : Str.join "" (x :: z :: r) = x ++ "" ++ Str.join "" (z :: r) := rfl
    have e0 : ("" : Str).length = 0 := rfl
    refine ⟨?_, ?_⟩
    · rw [e]; exact strOk_add (strOk_add (h x List.mem_cons_self) (by decide +kernel)) h1
    · have e2 : (List.map (fun x : Str => x.length) (x :: z :: r)).sum = x.length + (List.map (fun x : Str => x.length) (z :: r)).sum := by rw [List.map_cons, List.sum_cons]
      rw [e, str_len_add, str_len_add, h2, e0, e2]; omega
theorem join_so (ys : List Str) (h : ∀ y ∈ ys, PyData.strOk y = true) : PyData.strOk (Txt.join "" ys) = true ∧ (Txt.join "" ys).length = (ys.map (·.length)).sum := by
  have e : Txt.join "" ys = Str.join "" ys := TL.join_eq "" ys
  rw [e]; exact sjoin_so ys h
abbrev m_law_wide_name : Nat := 4288
abbrev pre_law_wide_name : List D → Prop
  | [taken_] => taken_ = .lst []
  | _ => False
abbrev post_law_wide_name : List D → D → Prop
  | [taken_], r => SO 12 r
  | _, _ => False
def u_law_wide_name (T : Txt K mg a_QUOTING a_BadBody i_BadBody) : WS K L2.E0 := (WS.seq (WS.forS (WI.rng1 (WA.cons (WE.int 20) WA.nil)) (WG.name 2)
 (WS.seq (WS.asg 3 (WM.up (WE.callG m_law_pick pre_law_pick post_law_pick 0 (WA.cons (WE.str "abcdefghijklmnopqrstuvwxyz") WA.nil))))
 (WS.seq (WS.forS (WI.rng1 (WA.cons (WE.callG m_law_pick pre_law_pick post_law_pick 0 (WA.cons (WE.lst (WA.cons (WE.int 0) (WA.cons (WE.int 1) (WA.cons (WE.int 2) (WA.cons (WE.int 4) (WA.cons (WE.int 11) (WA.cons (WE.callG m_law_draw pre_law_draw post_law_draw 0 (WA.cons (WE.int 12) WA.nil)) WA.nil))))))) WA.nil)) WA.nil)) (WG.name 4)
 (WS.asg 3 (WM.up (WE.op O2.add (WE.var 3) (WE.callG m_law_pick pre_law_pick post_law_pick 0 (WA.cons (WE.str "abcdefghijklmnopqrstuvwxyz0123456789") WA.nil))))) 64)
 (WS.ifS (WT.tst (WE.op O2.nin (WE.var 3) (WE.var 1)))
 (WS.ret (WM.up (WE.var 3)))
 WS.next))) 64)
 (WS.seq (WS.asg 5 (WM.up (WE.lc (WI.rng1 (WA.cons (WE.op O2.add (WE.cb ON.len (WA.cons (WE.var 1) WA.nil)) (WE.int 1)) WA.nil)) (WG.name 6) WT.yes (WE.op O2.add (WE.str "q") (WE.cb ON.strI (WA.cons (WE.var 6) WA.nil))) 999999)))
 (WS.ret (WM.up (WE.op O2.ix (WE.lc (WI.seq (WE.var 5)) (WG.name 3) (WT.tst (WE.op O2.nin (WE.var 3) (WE.var 1))) (WE.var 3) 999999) (WE.int 0))))))
theorem v_law_wide_name {taken_ : D} (T : Txt K mg a_QUOTING a_BadBody i_BadBody) (hp : taken_ = .lst []) : (u_law_wide_name T).w noX [.pen, .dat taken_, .un, .un, .un, .un, .un] (retW fun r => SO 12 r) := by
  unfold u_law_wide_name
  walk_at "w"
  try simp only [pre_law_pick, post_law_pick, pre_law_draw, post_law_draw]
  try walk_at "w"
  try simp only [pre_law_pick, post_law_pick, pre_law_draw, post_law_draw]
  try walk_at "w"

  subst hp
  refine ⟨20, rfl, by decide, ForP.of (fun i G => i = 0 ∧ G = [.pen, .dat (.lst []), .un, .un, .un, .un, .un]) (by simp) ⟨rfl, rfl⟩ ?_ ?_⟩
  · rintro i d G hd ⟨rfl, rfl⟩
    refine ⟨_, rfl, ?_⟩
    walk_at "w"
    simp only [pre_law_pick, post_law_pick, pre_law_draw, post_law_draw]
    walk_at "w"
    refine ⟨.inr ⟨by decide +kernel, by decide +kernel⟩, fun d1 h1 => ⟨by decide, ?_⟩⟩
    obtain ⟨z0, rfl, f1, f2⟩ := pick_s (by decide +kernel) h1
    rintro d2 ⟨k, rfl, k0, k1⟩
    refine ⟨by decide, .inl ⟨by decide, by decide⟩, fun d3 h3 => ?_⟩
    obtain ⟨i, hi, rfl⟩ := ints_of (is := [0, 1, 2, 4, 11, k]) (pick_l h3)
    have h11 : 0 ≤ i ∧ i ≤ 11 := by
      simp only [List.mem_cons, List.not_mem_nil, or_false] at hi; omega
    refine ⟨i, rfl, ⟨by omega, by omega⟩, ForP.of (fun j G => ∃ z s, G = [.pen, .dat (.lst []), .dat d, .dat (.str z), s, .un, .un] ∧ PyData.strOk z = true ∧ z.length ≤ j + 1) (by simp; omega) ⟨z0, _, rfl, f1, by omega⟩ ?_ ?_⟩
    · rintro j d' G hd' ⟨z, s, rfl, a1, a2⟩
      refine ⟨_, rfl, ?_⟩
      walk_at "w"
      simp only [pre_law_pick, post_law_pick]
      walk_at "w"
      refine ⟨.inr ⟨by decide +kernel, by decide +kernel⟩, fun d4 h4 => ?_⟩
      obtain ⟨y, rfl, f3, f4⟩ := pick_s (by decide +kernel) h4
      have hj := (rngD_get hd').1
      walk_at "w"
      refine ⟨by omega, _, _, rfl, strOk_add a1 f3, by rw [str_len_add]; omega⟩
    · rintro G ⟨z, s, rfl, a1, a2⟩
      simp only [rngD_len] at a2
      walk_at "w"
      exact ⟨rfl, fun _ => ⟨z, rfl, a1, by omega⟩, fun h => by simp [inD_nil] at h⟩
  · rintro G ⟨h, _⟩
    simp at h
theorem c_law_wide_name (X : Defs K mg a_QUOTING a_BadBody i_BadBody) (T : Txt K mg a_QUOTING a_BadBody i_BadBody) : Cal P w K mg base "_law_wide_name" 3 ["pen", "taken"] [] (SpG K m_law_wide_name pre_law_wide_name post_law_wide_name) := by
  have c_law_pick := c_law_pick (P := P) (w := w) (base := base) X T
  have c_law_draw := c_law_draw (P := P) (w := w) (base := base) X T
  refine cal_WG (N := N_law_wide_name) (u_law_wide_name T) X.d_law_wide_name sc_law_wide_name (fun ds h => ?_) (fun f cdv A outer s H E hr ng => ⟨_, (pss_cons (ps_for PassesOwn.never rfl (pi_range1 rfl T.b_range (pa_cons pe_int pa_nil)) (pg_name (i := 2) sc_law_wide_name.nd rfl (Or.inl rfl)) (pss_cons (ps_set (i := 3) sc_law_wide_name.nd rfl (Or.inl rfl) (peg_cal c_law_pick hr (by decide) ng rfl (pa_cons (pv 0) (pa_cons pe_str pa_nil))))
 (pss_cons (ps_for PassesOwn.never rfl (pi_range1 rfl T.b_range (pa_cons (peg_cal c_law_pick hr (by decide) ng rfl (pa_cons (pv 0) (pa_cons (pe_lst (pa_cons pe_int (pa_cons pe_int (pa_cons pe_int (pa_cons pe_int (pa_cons pe_int (pa_cons (peg_cal c_law_draw hr (by decide) ng rfl (pa_cons (pv 0) (pa_cons pe_int pa_nil))) pa_nil))))))) pa_nil))) pa_nil)) (pg_name (i := 4) sc_law_wide_name.nd rfl (Or.inl rfl)) (pss_one (ps_set (i := 3) sc_law_wide_name.nd rfl (Or.inl rfl) (pe_op (op_addUk (K := K)) (pv 3) (peg_cal c_law_pick hr (by decide) ng rfl (pa_cons (pv 0) (pa_cons pe_str pa_nil)))))))
 (pss_one (ps_if (pt_cmpR (op_ninUk (K := K)) (pv 3) (pv 1) (by rfl)) (pss_one (ps_ret (pv 3))) pss_nil)))))
 (pss_cons (ps_setLc (i := 5) (own := [("index", 6)]) (g := (gName 6)) (tt := tYes) (by rfl) sc_law_wide_name.nd rfl rfl (sw_true rfl rfl rfl (by decide +kernel)) (pi_range1 rfl T.b_range (pa_cons (pe_op (op_addUk (K := K)) (pe_callB (call_lenk (K := K)) (by rfl) T.b_len (by decide +kernel) (pa_cons (pv 1) pa_nil)) pe_int) pa_nil)) (blkOk_by (own := [("index", 6)]) (N := N_law_wide_name) (sc := defScope s_law_wide_name) (by decide +kernel)) (fun _ _ _ _ _ => (pg_name (i := 6) sc_law_wide_name.nd rfl (Or.inl rfl))) (fun _ _ _ _ _ => pts_nil) (fun _ _ _ _ _ => (pe_op (op_addUk (K := K)) pe_str (pe_callTy call_str_int (by rfl) T.b_str (by decide +kernel) (pa_cons (pv 6) pa_nil)))))
 (pss_one (ps_ret (pe_ix (ix_seqk (K := K)) (pe_lc (own := [("name", 3)]) (g := (gName 3)) (by rfl) sc_law_wide_name.nd (pi_seqk (K := K) (pv 5)) (blkOk_by (own := [("name", 3)]) (N := N_law_wide_name) (sc := defScope s_law_wide_name) (by decide +kernel)) (fun _ _ _ _ _ => (pg_name (i := 3) sc_law_wide_name.nd rfl (Or.inl rfl))) (fun _ _ _ _ _ => (pts_one (pt_cmpR (op_ninUk (K := K)) (pv 3) (pv 1) (by rfl)))) (fun _ _ _ _ _ => (pv 3))) pe_int (fun _ _ => rfl)))))), rfl⟩) (Nat.le_of_eq rfl) fun ds hp => ?_
  · match ds, h with
    | [_], _ => rfl
  · match ds, hp with
    | [taken_], hp => exact w_at (u_law_wide_name T) (v_law_wide_name T hp) rfl rfl rfl
abbrev m_law_plain : Nat := 65
abbrev pre_law_plain : List D → Prop
  | [] => True
  | _ => False
abbrev post_law_plain : List D → D → Prop
  | [], r => SO 13 r
  | _, _ => False
def u_law_plain (T : Txt K mg a_QUOTING a_BadBody i_BadBody) : WS K L2.E0 := (WS.seq (WS.asg 1 (WM.up (WE.join (WE.str "") (WE.lc (WI.rng1 (WA.cons (WE.callG m_law_pick pre_law_pick post_law_pick 0 (WA.cons (WE.lst (WA.cons (WE.int 1) (WA.cons (WE.int 1) (WA.cons (WE.int 3) (WA.cons (WE.int 4) (WA.cons (WE.int 12) WA.nil)))))) WA.nil)) WA.nil)) (WG.name 2) WT.yes (WE.callG m_law_pick pre_law_pick post_law_pick 0 (WA.cons (WE.str "abcdefghijklmnopqrstuvwxyz0123456789") WA.nil)) 64))))
 (WS.ret (WM.up (WE.ite (WT.tst (WE.op O2.inn (WE.var 1) (WE.lst (WA.cons (WE.str "see") (WA.cons (WE.str "copy") WA.nil))))) (WE.op O2.add (WE.var 1) (WE.str "x")) (WE.var 1)))))
theorem v_law_plain (T : Txt K mg a_QUOTING a_BadBody i_BadBody) (hp : True) : (u_law_plain T).w noX [.pen, .un, .un] (retW fun r => SO 13 r) := by
  unfold u_law_plain
  walk_at "w"
  try simp only [pre_law_pick, post_law_pick]
  try walk_at "w"
  try simp only [pre_law_pick, post_law_pick]
  try walk_at "w"

  refine ⟨by decide, .inl ⟨by decide, by decide⟩, fun d hd => ?_⟩
  obtain ⟨i, hi, rfl⟩ := ints_of (is := [1, 1, 3, 4, 12]) (pick_l hd)
  have h12 : 0 ≤ i ∧ i ≤ 12 := by
    simp only [List.mem_cons, List.not_mem_nil, or_false] at hi; omega
  refine ⟨i, rfl, ⟨by omega, by omega⟩, LcP.each (SO 1) (by simp; omega) (fun x hx => ⟨_, rfl, ?_⟩) fun es hl hs => ?_⟩
  · walk_at "w"
    exact ⟨.inr ⟨_, rfl, by decide +kernel, by decide +kernel⟩, fun d hd => pick_p (by decide +kernel) hd⟩
  · obtain ⟨ys, rfl, h1, h2⟩ := sos hs
    obtain ⟨j1, j2⟩ := join_so ys h2
    have hl' : ys.length ≤ 12 := by
      rw [List.length_map, rngD_len] at hl; omega
    have h3 : (Txt.join "" ys).length ≤ 12 := by rw [j2]; omega
    refine ⟨_, rfl, ys, rfl, ?_, by decide, rfl, rfl, fun _ => ⟨?_, ?_⟩, fun _ => ⟨_, rfl, j1, by omega⟩⟩
    · have : ("" : Str).length = 0 := rfl
      rw [this]; omega
    · have : ("x" : Str).length = 1 := rfl
      omega
    · refine ⟨_, rfl, strOk_add j1 (by decide +kernel), ?_⟩
      have : ("x" : Str).length = 1 := rfl
      rw [str_len_add]; omega
theorem c_law_plain (X : Defs K mg a_QUOTING a_BadBody i_BadBody) (T : Txt K mg a_QUOTING a_BadBody i_BadBody) : Cal P w K mg base "_law_plain" 3 ["pen"] [] (SpG K m_law_plain pre_law_plain post_law_plain) := by
  have c_law_pick := c_law_pick (P := P) (w := w) (base := base) X T
  refine cal_WG (N := N_law_plain) (u_law_plain T) X.d_law_plain sc_law_plain (fun ds h => ?_) (fun f cdv A outer s H E hr ng => ⟨_, (pss_cons (ps_set (i := 1) sc_law_plain.nd rfl (Or.inl rfl) (pe_joink (K := K) pe_str (pe_lc (own := [("spot", 2)]) (g := (gName 2)) (tt := tYes) (by rfl) sc_law_plain.nd (pi_range1 rfl T.b_range (pa_cons (peg_cal c_law_pick hr (by decide) ng rfl (pa_cons (pv 0) (pa_cons (pe_lst (pa_cons pe_int (pa_cons pe_int (pa_cons pe_int (pa_cons pe_int (pa_cons pe_int pa_nil)))))) pa_nil))) pa_nil)) (blkOk_by (own := [("spot", 2)]) (N := N_law_plain) (sc := defScope s_law_plain) (by decide +kernel)) (fun _ _ _ _ _ => (pg_name (i := 2) sc_law_plain.nd rfl (Or.inl rfl))) (fun _ _ _ _ _ => pts_nil) (fun _ _ _ _ _ => (peg_cal c_law_pick hr (by decide) ng rfl (pa_cons (pv 0) (pa_cons pe_str pa_nil)))))))
 (pss_one (ps_ret (pe_ifExp (pt_cmpR (op_inUk (K := K)) (pv 1) (pe_lst (pa_cons pe_str (pa_cons pe_str pa_nil))) (by rfl)) (pe_op (op_addUk (K := K)) (pv 1) pe_str) (pv 1))))), rfl⟩) (Nat.le_of_eq rfl) fun ds hp => ?_
  · match ds, h with
    | [], _ => rfl
  · match ds, hp with
    | [], hp => exact w_at (u_law_plain T) (v_law_plain T hp) rfl rfl rfl
abbrev m_law_long_number : Nat := 66
abbrev pre_law_long_number : List D → Prop
  | [] => True
  | _ => False
abbrev post_law_long_number : List D → D → Prop
  | [], r => ∃ i : Int, r = .int i ∧ 0 ≤ i ∧ i < 10 ^ 40
  | _, _ => False
def u_law_long_number (T : Txt K mg a_QUOTING a_BadBody i_BadBody) : WS K L2.E0 := (WS.seq (WS.asg 1 (WM.up (WE.op O2.add (WE.int 1) (WE.callG m_law_draw pre_law_draw post_law_draw 0 (WA.cons (WE.int 9) WA.nil)))))
 (WS.seq (WS.forS (WI.rng1 (WA.cons (WE.callG m_law_pick pre_law_pick post_law_pick 0 (WA.cons (WE.lst (WA.cons (WE.int 0) (WA.cons (WE.int 0) (WA.cons (WE.int 0) (WA.cons (WE.int 1) (WA.cons (WE.int 5) (WA.cons (WE.int 39) WA.nil))))))) WA.nil)) WA.nil)) (WG.name 2)
 (WS.asg 1 (WM.up (WE.op O2.add (WE.op O2.mul (WE.var 1) (WE.int 10)) (WE.callG m_law_draw pre_law_draw post_law_draw 0 (WA.cons (WE.int 10) WA.nil))))) 64)
 (WS.ret (WM.up (WE.var 1)))))
theorem v_law_long_number (T : Txt K mg a_QUOTING a_BadBody i_BadBody) (hp : True) : (u_law_long_number T).w noX [.pen, .un, .un] (retW fun r => ∃ i : Int, r = .int i ∧ 0 ≤ i ∧ i < 10 ^ 40) := by
  unfold u_law_long_number
  walk_at "w"
  try simp only [pre_law_draw, post_law_draw, pre_law_pick, post_law_pick]
  try walk_at "w"
  try simp only [pre_law_draw, post_law_draw, pre_law_pick, post_law_pick]
  try walk_at "w"

  refine ⟨by decide, ?_⟩
  rintro d ⟨k, rfl, k0, k1⟩
  walk_at "w"
  refine ⟨by decide, .inl ⟨by decide, by decide⟩, fun d hd => ?_⟩
  obtain ⟨i, hi, rfl⟩ := ints_of (is := [0, 0, 0, 1, 5, 39]) (pick_l hd)
  have h39 : 0 ≤ i ∧ i ≤ 39 := by
    simp only [List.mem_cons, List.not_mem_nil, or_false] at hi; omega
  refine ⟨i, rfl, ⟨by omega, by omega⟩, ForP.of (fun j G => ∃ (v : Int) (s : Sk), G = [.pen, .dat (.int v), s] ∧ 0 ≤ v ∧ v < 10 ^ (j + 1)) (by simp; omega) ⟨_, _, rfl, by omega, by omega⟩ ?_ ?_⟩
  · rintro j d G hd ⟨v, s, rfl, v0, v1⟩
    refine ⟨_, rfl, ?_⟩
    walk_at "w"
    simp only [pre_law_draw, post_law_draw]
    refine ⟨.inr ⟨by decide, by decide⟩, by decide, ?_⟩
    rintro d1 ⟨k2, rfl, a0, a1⟩
    walk_at "w"
    refine ⟨_, _, rfl, by omega, ?_⟩
    rw [Int.pow_succ]; omega
  · rintro G ⟨v, s, rfl, v0, v1⟩
    simp only [rngD_len] at v1
    walk_at "w"
    refine ⟨v0, Int.lt_of_lt_of_le v1 ?_⟩
    exact pow10 _ (by omega)
theorem c_law_long_number (X : Defs K mg a_QUOTING a_BadBody i_BadBody) (T : Txt K mg a_QUOTING a_BadBody i_BadBody) : Cal P w K mg base "_law_long_number" 3 ["pen"] [] (SpG K m_law_long_number pre_law_long_number post_law_long_number) := by
  have c_law_draw := c_law_draw (P := P) (w := w) (base := base) X T
  have c_law_pick := c_law_pick (P := P) (w := w) (base := base) X T
  refine cal_WG (N := N_law_long_number) (u_law_long_number T) X.d_law_long_number sc_law_long_number (fun ds h => ?_) (fun f cdv A outer s H E hr ng => ⟨_, (pss_cons (ps_set (i := 1) sc_law_long_number.nd rfl (Or.inl rfl) (pe_op (op_addUk (K := K)) pe_int (peg_cal c_law_draw hr (by decide) ng rfl (pa_cons (pv 0) (pa_cons pe_int pa_nil)))))
 (pss_cons (ps_for PassesOwn.never rfl (pi_range1 rfl T.b_range (pa_cons (peg_cal c_law_pick hr (by decide) ng rfl (pa_cons (pv 0) (pa_cons (pe_lst (pa_cons pe_int (pa_cons pe_int (pa_cons pe_int (pa_cons pe_int (pa_cons pe_int (pa_cons pe_int pa_nil))))))) pa_nil))) pa_nil)) (pg_name (i := 2) sc_law_long_number.nd rfl (Or.inl rfl)) (pss_one (ps_set (i := 1) sc_law_long_number.nd rfl (Or.inl rfl) (pe_op (op_addUk (K := K)) (pe_op (op_mulUk (K := K)) (pv 1) pe_int) (peg_cal c_law_draw hr (by decide) ng rfl (pa_cons (pv 0) (pa_cons pe_int pa_nil)))))))
 (pss_one (ps_ret (pv 1))))), rfl⟩) (Nat.le_of_eq rfl) fun ds hp => ?_
  · match ds, h with
    | [], _ => rfl
  · match ds, hp with
    | [], hp => exact w_at (u_law_long_number T) (v_law_long_number T hp) rfl rfl rfl
abbrev m_law_wide_piece : Nat := 8708
abbrev pre_law_wide_piece : List D → Prop
  | [] => True
  | _ => False
abbrev post_law_wide_piece : List D → D → Prop
  | [], r => GD 3 8000 r ∧ ∃ a l, r = .tup (a :: l) ∧ l.length ≤ 3
  | _, _ => False
def u_law_wide_piece (T : Txt K mg a_QUOTING a_BadBody i_BadBody) : WS K L2.E0 := (WS.seq (WS.asg 1 (WM.up (WE.callG m_law_draw pre_law_draw post_law_draw 0 (WA.cons (WE.int 4) WA.nil))))
 (WS.seq (WS.ifS (WT.tst (WE.op (O2.cmp fun i j => decide (i < j)) (WE.var 1) (WE.int 2)))
 (WS.ret (WM.up (WE.tup (WA.cons (WE.str "word") (WA.cons (WE.callG m_law_plain pre_law_plain post_law_plain 0 WA.nil) WA.nil)))))
 WS.next)
 (WS.seq (WS.par 2 3 (WE.callG m_law_wide_name pre_law_wide_name post_law_wide_name 0 (WA.cons (WE.lst WA.nil) WA.nil)) (WE.callG m_law_wide_name pre_law_wide_name post_law_wide_name 0 (WA.cons (WE.lst WA.nil) WA.nil)))
 (WS.ret (WM.up (WE.ite (WT.tst (WE.op O2.eq (WE.var 1) (WE.int 2))) (WE.tup (WA.cons (WE.str "see") (WA.cons (WE.var 2) (WA.cons (WE.var 3) WA.nil)))) (WE.tup (WA.cons (WE.str "copy") (WA.cons (WE.var 2) (WA.cons (WE.var 3) (WA.cons (WE.callG m_law_long_number pre_law_long_number post_law_long_number 0 WA.nil) WA.nil)))))))))))
theorem v_law_wide_piece (T : Txt K mg a_QUOTING a_BadBody i_BadBody) (hp : True) : (u_law_wide_piece T).w noX [.pen, .un, .un, .un] (retW fun r => GD 3 8000 r ∧ ∃ a l, r = .tup (a :: l) ∧ l.length ≤ 3) := by
  unfold u_law_wide_piece
  walk_at "w"
  try simp only [pre_law_draw, post_law_draw, pre_law_wide_name, post_law_wide_name, pre_law_plain, post_law_plain, pre_law_long_number, post_law_long_number]
  try walk_at "w"
  try simp only [pre_law_draw, post_law_draw, pre_law_wide_name, post_law_wide_name, pre_law_plain, post_law_plain, pre_law_long_number, post_law_long_number]
  try walk_at "w"

  refine ⟨by decide, ?_⟩
  rintro d ⟨k, rfl, k0, k1⟩
  walk_at "w"
  refine ⟨fun _ d hd => ⟨by decide, gdT (GDs.cons (k := 2) (n := 100) gdS (GDs.cons hd.gd (GDs.nil (n := 0)))), _, _, rfl, by simp⟩, fun _ => ⟨by decide, fun d1 h1 => ⟨by decide, fun d2 h2 => ⟨fun _ => ⟨by decide, gdT (GDs.cons (k := 2) (n := 100) gdS (GDs.cons h1.gd (GDs.cons h2.gd (GDs.nil (n := 0))))), _, _, rfl, by simp⟩, fun _ d3 h3 => ?_⟩⟩⟩⟩
  obtain ⟨i, rfl, i0, i1⟩ := h3
  exact ⟨by decide, gdT (GDs.cons (k := 2) (n := 100) gdS (GDs.cons h1.gd (GDs.cons h2.gd (GDs.cons (gd40 (n := 2000) i0 i1) (GDs.nil (n := 0)))))), _, _, rfl, by simp⟩
theorem c_law_wide_piece (X : Defs K mg a_QUOTING a_BadBody i_BadBody) (T : Txt K mg a_QUOTING a_BadBody i_BadBody) : Cal P w K mg base "_law_wide_piece" 4 ["pen"] [] (SpG K m_law_wide_piece pre_law_wide_piece post_law_wide_piece) := by
  have c_law_draw := c_law_draw (P := P) (w := w) (base := base) X T
  have c_law_wide_name := c_law_wide_name (P := P) (w := w) (base := base) X T
  have c_law_plain := c_law_plain (P := P) (w := w) (base := base) X T
  have c_law_long_number := c_law_long_number (P := P) (w := w) (base := base) X T
  refine cal_WG (N := N_law_wide_piece) (u_law_wide_piece T) X.d_law_wide_piece sc_law_wide_piece (fun ds h => ?_) (fun f cdv A outer s H E hr ng => ⟨_, (pss_cons (ps_set (i := 1) sc_law_wide_piece.nd rfl (Or.inl rfl) (peg_cal c_law_draw hr (by decide) ng rfl (pa_cons (pv 0) (pa_cons pe_int pa_nil))))
 (pss_cons (ps_if (pt_cmpR op_lt (pv 1) pe_int (nomark _)) (pss_one (ps_ret (pe_tup (pa_cons pe_str (pa_cons (peg_cal c_law_plain hr (by decide) ng rfl (pa_cons (pv 0) pa_nil)) pa_nil))))) pss_nil)
 (pss_cons (ps_par rfl sc_law_wide_piece.nd rfl rfl (by decide) rfl rfl (pa_cons (peg_cal c_law_wide_name hr (by decide) ng rfl (pa_cons (pv 0) (pa_cons (pe_lst pa_nil) pa_nil))) (pa_cons (peg_cal c_law_wide_name hr (by decide) ng rfl (pa_cons (pv 0) (pa_cons (pe_lst pa_nil) pa_nil))) pa_nil)) (by rfl))
 (pss_one (ps_ret (pe_ifExp (pt_cmpR (op_eqDk (K := K) (Room.units hr)) (pv 1) pe_int (nomark _)) (pe_tup (pa_cons pe_str (pa_cons (pv 2) (pa_cons (pv 3) pa_nil)))) (pe_tup (pa_cons pe_str (pa_cons (pv 2) (pa_cons (pv 3) (pa_cons (peg_cal c_law_long_number hr (by decide) ng rfl (pa_cons (pv 0) pa_nil)) pa_nil))))))))))), rfl⟩) (Nat.le_of_eq rfl) fun ds hp => ?_
  · match ds, h with
    | [], _ => rfl
  · match ds, hp with
    | [], hp => exact w_at (u_law_wide_piece T) (v_law_wide_piece T hp) rfl rfl rfl
end
end K67
set_option maxRecDepth 100000
set_option maxHeartbeats 8000000
namespace K67
open PySem L2 PyProof.Rows DL
section
variable {P : Program} {w : World} {K : PySem.W.Frag} {mg : Str → Option Value} {base : Heap} {a_QUOTING a_BadBody i_BadBody : Addr}
local macro_rules | `(tactic| walk_at "w") => `(tactic| simp (config := { maxSteps := 10000000 }) only [DL.sub_un, DL.sub_pen, DL.sub_dat, DL.dsub_non, DL.dsub_bl, DL.dsub_int, DL.dsub_str, DL.dsub_ptr, DL.dsub_lst, DL.dsub_tup, DL.dsub_err, DL.dsubs_nil, DL.dsubs_cons, DL.w_isX, DL.w_isP, DL.w_sset, DL.w_enumU, DL.n_sortedE, DL.w_join, DL.w_ixO, DL.w_setAt, DL.ownI_0, DL.ownI_s, DL.w_wflc, DL.w_wflist, DL.w_asgF, DL.w_par3, DL.w_par3F, DL.w_lam, DL.w_toldA, DL.np_un, DL.np_dat, DL.np_own, DL.np_pen, DL.w_tryRaise, DL.chW_cons, DL.w_tryRaise0, DL.ch0_cons, DL.w_parOL, DL.owAt_0, DL.owAt_s, DL.w_pvar, DL.w_name, DL.w_tell, DL.w_appendO, DL.w_mkE, DL.w_mkE0, DL.w_fldX, DL.w_var, DL.w_int, DL.w_bl, DL.w_str, DL.w_non, DL.w_ktup, DL.w_op, DL.w_neg, DL.w_chain, DL.w_nil, DL.w_cons, DL.w_tup, DL.w_lst, DL.w_tst, DL.w_tb, DL.w_not, DL.w_yes, DL.w_and, DL.w_or, DL.w_andV, DL.w_orV, DL.w_notV, DL.w_ite, DL.w_none, DL.w_some, DL.w_sl, DL.w_cb, DL.w_isi, DL.w_isi2, DL.w_call, DL.w_callD, DL.w_callX, DL.w_callG, DL.w_split, DL.w_dget, DL.w_knil, DL.w_kcons, DL.w_dispK, DL.w_seqI, DL.w_rng1, DL.w_rng2, DL.w_enum, DL.w_zip, DL.w_lc, DL.w_borrow, DL.w_up, DL.w_popAt, DL.w_next, DL.w_brk, DL.w_cont, DL.w_seq, DL.w_ret, DL.w_retN, DL.w_asg, DL.w_asgT, DL.w_asgOwn, DL.w_drop, DL.w_ifS, DL.w_append, DL.w_raiseO, DL.w_xf, DL.w_tryAsg, DL.w_mkX, DL.w_fldR, DL.w_fld, DL.w_isC, DL.q_eqO, DL.q_neO, DL.w_tryMk, DL.slfAt_0, DL.slfAt_s, DL.w_asgLend, DL.lendAt_o, DL.lendAt_d, DL.lendAt_s, DL.w_borrowD, DL.w_asgIteL, DL.w_frz, frzAt_0, frzAt_d, frzAt_u, frzAt_s, DL.w_forS, DL.w_par, DL.w_parLE,
  DL.q_int, DL.q_cmp, DL.q_intC, DL.q_addI, DL.q_addS, DL.q_addT, DL.q_addL, DL.q_mulI, DL.q_mulS, DL.q_mulL, DL.q_eq, DL.q_ne, DL.q_isN, DL.q_isB, DL.q_notN, DL.q_inT, DL.q_inL, DL.q_inS, DL.q_ninT, DL.q_ninL, DL.q_ninS, DL.q_ixL, DL.q_ixT, DL.q_ixS, DL.n_len, DL.n_list, DL.n_tuple, DL.n_all, DL.n_any, DL.n_sum, DL.n_sortedS, DL.n_min2, DL.n_max2, DL.n_int1, DL.n_int2, DL.n_int2b, DL.q_neS, DL.q_innE, DL.q_ninE, DL.w_dct0, DL.q_eqS, DL.n_strI, DL.n_repr, DL.g_name, DL.is_name, DL.is_tupG, DL.is_seqG, DL.is_consG, DL.is_nilG, cut_tup, cut_lst,  isi_str, isi_int, isi_bool, isi_tuple, isi_list,
  datAt_0, datAt_s, ownAt_0, ownAt_s, penIs_0, penIs_s, setD_nil, setD_cons, wipeG, List.set_cons_zero, List.set_cons_succ, List.set_nil, List.map_cons, List.map_nil, List.cons_append, List.nil_append,
  D.bl.injEq, D.int.injEq, D.str.injEq, exists_eq_left', exists_eq_left, exists_and_left, exists_eq', exists_eq, true_and, and_true, true_imp_iff, false_imp_iff, Bool.true_eq_false, Bool.false_eq_true, forall_const, Bool.not_true, Bool.not_false, List.length_cons, List.length_nil, eqv_str, eqv_int, ok_int, ok_bl, ok_non, forall_eq, atI_0, atI_1, atI_2, atI_3, List.getElem?_cons_zero, List.getElem?_cons_succ, List.getElem?_nil, Option.some.injEq, Sk.own.injEq, len_tup, len_lst, its_tup, its_lst, itemsOf_tup, itemsOf_lst, itemsOf_str, isS_str, isT_tup, isL_lst, isI_int, isB_bl, builtin_str, builtin_tup, builtin_lst, builtin_int, builtin_bl, builtin_non, D.sign_one, List.all_cons, List.all_nil, Bool.and_true])

theorem GDs_set {k m : Nat} {d : D} (hd : GD k m d) : ∀ {ds : List D} {n : Nat} (i : Nat), GDs k n ds → GDs k (n + 2 + m) (ds.set i d)
  | [], n, i, h => h.mono (Nat.le_refl _) (by omega)
  | x :: ds, n, 0, h => by
    have := GDs.cons hd h.tail
    exact this.mono (Nat.le_refl _) (by omega)
  | x :: ds, n, i + 1, h => by
    show GDs k _ (x :: ds.set i d)
    have h1 := h.head
    have h2 := h.tail
    have hw : D.w x + 2 + D.ws ds ≤ n := h.w
    have e1 : GD k (D.w x) x := ⟨h1.pl, h1.lay, h1.sh, h1.dep, Nat.le_refl _⟩
    have e2 : GDs k (D.ws ds) ds := ⟨h2.pl, h2.lay, h2.sh, h2.dep, Nat.le_refl _⟩
    exact (GDs.cons e1 (GDs_set (n := D.ws ds) hd i e2)).mono (Nat.le_refl _) (by omega)
def gdb (k n : Nat) (d : D) : Bool := d.plain && (d.py.canLay0 && (d.py.showable && (decide (d.py.depth ≤ k) && decide (d.w ≤ n))))
theorem gdb_of {k n : Nat} {d : D} (h : gdb k n d = true) : GD k n d := by
  simp only [gdb, Bool.and_eq_true, decide_eq_true_eq] at h
  exact ⟨h.1, h.2.1, h.2.2.1, h.2.2.2.1, h.2.2.2.2⟩
theorem gdb_all {k n : Nat} {ds : List D} (h : ds.all (gdb k n) = true) {d : D} (hd : d ∈ ds) : GD k n d := gdb_of (List.all_eq_true.mp h d hd)
def gdc (d : D) : Bool := match d with
  | .dct [] [] => true
  | d => gdb 2 2000 d
theorem gdc_of {d : D} (h : gdc d = true) : GD 2 2000 d ∨ d = .dct [] [] := by
  unfold gdc at h
  split at h
  · exact .inr rfl
  · exact .inl (gdb_of h)
theorem gdc_all {ds : List D} (h : ds.all gdc = true) {d : D} (hd : d ∈ ds) : GD 2 2000 d ∨ d = .dct [] [] := gdc_of (List.all_eq_true.mp h d hd)
abbrev m_law_bent_piece : Nat := 6
abbrev pre_law_bent_piece : List D → Prop
  | [piece_] => GD 3 8000 piece_ ∧ ∃ a l, piece_ = .tup (a :: l) ∧ l.length ≤ 3
  | _ => False
abbrev post_law_bent_piece : List D → D → Prop
  | [piece_], r => GD 4 12000 r ∨ r = .dct [] []
  | _, _ => False
def u_law_bent_piece (T : Txt K mg a_QUOTING a_BadBody i_BadBody) : WS K L2.E0 := (WS.seq (WS.par3F 2 3 4 (WF.list (WE.var 1)) (WE.callG m_law_draw pre_law_draw post_law_draw 0 (WA.cons (WE.int 7) WA.nil)) (WE.callG m_law_draw pre_law_draw post_law_draw 0 (WA.cons (WE.cb ON.len (WA.cons (WE.var 1) WA.nil)) WA.nil)))
 (WS.seq (WS.ifS (WT.tst (WE.op O2.eq (WE.var 3) (WE.int 0)))
 (WS.frz 2 (WS.ret (WM.up (WE.callG m_law_pick pre_law_pick post_law_pick 0 (WA.cons (WE.lst (WA.cons (WE.var 2) (WA.cons WE.non (WA.cons (WE.int 5) (WA.cons (WE.tup WA.nil) (WA.cons (WE.str "word") (WA.cons (WE.tup (WA.cons (WE.str "word") WA.nil)) (WA.cons (WE.tup (WA.cons (WE.str "see") (WA.cons (WE.str "a") WA.nil))) (WA.cons (WE.tup (WA.cons (WE.str "copy") (WA.cons (WE.str "a") (WA.cons (WE.str "b") WA.nil)))) (WA.cons (WE.tup (WA.cons (WE.str "word") (WA.cons (WE.str "a") (WA.cons (WE.str "b") WA.nil)))) (WA.cons WE.dct0 WA.nil))))))))))) WA.nil)))))
 WS.next)
 (WS.seq (WS.ifS (WT.tst (WE.op O2.eq (WE.var 3) (WE.int 1)))
 (WS.frz 2 (WS.asg 2 (WM.up (WE.op O2.add (WE.var 2) (WE.lst (WA.cons (WE.callG m_law_pick pre_law_pick post_law_pick 0 (WA.cons (WE.lst (WA.cons (WE.int 1) (WA.cons (WE.str "a") (WA.cons (WE.int 0) (WA.cons WE.non WA.nil))))) WA.nil)) WA.nil))))))
 (WS.ifS (WT.tst (WE.op O2.eq (WE.var 3) (WE.int 2)))
 (WS.frz 2 (WS.asg 2 (WM.up (WE.sl (WE.var 2) WO.none (WO.some (WE.neg (WE.int 1)))))))
 (WS.ifS (WT.tst (WE.op O2.eq (WE.var 3) (WE.int 3)))
 (WS.setAt 2 (WE.int 0) (WE.callG m_law_pick pre_law_pick post_law_pick 0 (WA.cons (WE.lst (WA.cons (WE.str "word") (WA.cons (WE.str "see") (WA.cons (WE.str "copy") (WA.cons (WE.str "Word") (WA.cons WE.non (WA.cons (WE.str "take") (WA.cons (WE.bl true) WA.nil)))))))) WA.nil)))
 (WS.setAt 2 (WE.var 4) (WE.callG m_law_pick pre_law_pick post_law_pick 0 (WA.cons (WE.lst (WA.cons (WE.str "see") (WA.cons (WE.str "copy") (WA.cons (WE.str "") (WA.cons (WE.op O2.mul (WE.str "a") (WE.int 12)) (WA.cons (WE.op O2.mul (WE.str "a") (WE.int 13)) (WA.cons (WE.str "1a") (WA.cons (WE.str "a1") (WA.cons (WE.str "A") (WA.cons (WE.int 0) (WA.cons (WE.neg (WE.int 1)) (WA.cons (WE.bl true) (WA.cons WE.non (WA.cons (WE.str "7") (WA.cons (WE.lst (WA.cons (WE.str "a") WA.nil)) (WA.cons (WE.op (O2.intC CPow fun i j => i ^ j.toNat) (WE.int 10) (WE.int 50)) (WA.cons (WE.str "a b") (WA.cons (WE.str "a.b") WA.nil)))))))))))))))))) WA.nil))))))
 (WS.frz 2 (WS.ret (WM.up (WE.cb ON.tuple (WA.cons (WE.var 2) WA.nil))))))))
theorem v_law_bent_piece {piece_ : D} (T : Txt K mg a_QUOTING a_BadBody i_BadBody) (hp : GD 3 8000 piece_ ∧ ∃ a l, piece_ = .tup (a :: l) ∧ l.length ≤ 3) : (u_law_bent_piece T).w noX [.pen, .dat piece_, .un, .un, .un] (retW fun r => GD 4 12000 r ∨ r = .dct [] []) := by
  unfold u_law_bent_piece
  walk_at "w"
  try simp only [pre_law_draw, post_law_draw, pre_law_pick, post_law_pick]
  try walk_at "w"
  try simp only [pre_law_draw, post_law_draw, pre_law_pick, post_law_pick]
  try walk_at "w"

  obtain ⟨hg, a, l, rfl, hl⟩ := hp
  have gs := hg.tups
  refine ⟨a :: l, rfl, by decide, ?_⟩
  rintro d ⟨k, rfl, k0, k1⟩
  refine ⟨_, rfl, ⟨by simp, by simp; omega⟩, ?_⟩
  rintro d1 ⟨j, rfl, j0, j1⟩
  walk_at "w"
  refine ⟨fun _ => ⟨by decide, by decide, by decide, by decide, by decide, by decide, .inl ⟨by decide, by decide⟩, fun x hx => ?_⟩, fun _ => ⟨fun _ => ⟨by decide, .inl ⟨by decide, by decide⟩, fun x hx => ⟨by decide, by simp; omega, ?_⟩⟩, fun _ => ⟨fun _ => ⟨rfl, ?_⟩, fun _ => ⟨fun _ => ?_, fun _ => ?_⟩⟩⟩⟩
  · rcases List.mem_cons.mp (pick_l hx) with q | q
    · rw [q]; exact .inl (gdL gs)
    · exact (gdc_all (by decide +kernel) q).imp (fun h => h.mono (by decide) (by decide)) id
  · have g := gdb_all (k := 2) (n := 2000) (by decide +kernel) (pick_l hx)
    exact .inl (gdT (GDs.app gs (GDs.cons g (GDs.nil (n := 0)))))
  · exact .inl (gdT (gs.cut _ _))
  · refine ⟨by decide, .inl ⟨by decide, by decide⟩, fun d hd => ⟨0, rfl, by omega, .inl ?_⟩⟩
    have g := gdb_all (k := 2) (n := 2000) (by decide +kernel) (pick_l hd)
    exact gdT (GDs_set g 0 gs)
  · refine ⟨⟨by decide, by decide, by decide⟩, ⟨by decide, by decide, by decide⟩, by decide, (by unfold CPow; decide +kernel), by decide, .inl ⟨by decide, by decide⟩, fun d hd => ⟨j.toNat, by omega, by simp at j1; omega, .inl ?_⟩⟩
    have g := gdb_all (k := 2) (n := 2000) (by decide +kernel) (pick_l hd)
    exact gdT (GDs_set g _ gs)
theorem c_law_bent_piece (X : Defs K mg a_QUOTING a_BadBody i_BadBody) (T : Txt K mg a_QUOTING a_BadBody i_BadBody) : Cal P w K mg base "_law_bent_piece" 3 ["pen", "piece"] [] (SpG K m_law_bent_piece pre_law_bent_piece post_law_bent_piece) := by
  have c_law_draw := c_law_draw (P := P) (w := w) (base := base) X T
  have c_law_pick := c_law_pick (P := P) (w := w) (base := base) X T
  refine cal_WG (N := N_law_bent_piece) (u_law_bent_piece T) X.d_law_bent_piece sc_law_bent_piece (fun ds h => ?_) (fun f cdv A outer s H E hr ng => ⟨_, (pss_cons (ps_par3 rfl sc_law_bent_piece.nd rfl rfl rfl (by decide) (by decide) (by decide) rfl rfl rfl (pa_cons (pe_callTy (call_list_ofk (K := K)) (by rfl) T.b_list (by decide +kernel) (pa_cons (pv 1) pa_nil)) (pa_cons (peg_cal c_law_draw hr (by decide) ng rfl (pa_cons (pv 0) (pa_cons pe_int pa_nil))) (pa_cons (peg_cal c_law_draw hr (by decide) ng rfl (pa_cons (pv 0) (pa_cons (pe_callB (call_lenk (K := K)) (by rfl) T.b_len (by decide +kernel) (pa_cons (pv 1) pa_nil)) pa_nil))) pa_nil))) (by rfl))
 (pss_cons (ps_if (pt_cmpR (op_eqDk (K := K) (Room.units hr)) (pv 3) pe_int (nomark _)) (pss_one (ps_ret (peg_cal c_law_pick hr (by decide) ng rfl (pa_cons (pv 0) (pa_cons (pe_lst (pa_cons (pv 2) (pa_cons pe_non (pa_cons pe_int (pa_cons (pe_tup pa_nil) (pa_cons pe_str (pa_cons (pe_tup (pa_cons pe_str pa_nil)) (pa_cons (pe_tup (pa_cons pe_str (pa_cons pe_str pa_nil))) (pa_cons (pe_tup (pa_cons pe_str (pa_cons pe_str (pa_cons pe_str pa_nil)))) (pa_cons (pe_tup (pa_cons pe_str (pa_cons pe_str (pa_cons pe_str pa_nil)))) (pa_cons (pe_dnewK) pa_nil))))))))))) pa_nil))))) pss_nil)
 (pss_cons (ps_if (pt_cmpR (op_eqDk (K := K) (Room.units hr)) (pv 3) pe_int (nomark _)) (pss_one (ps_set (i := 2) sc_law_bent_piece.nd rfl (Or.inl rfl) (pe_op (op_addUk (K := K)) (pv 2) (pe_lst (pa_cons (peg_cal c_law_pick hr (by decide) ng rfl (pa_cons (pv 0) (pa_cons (pe_lst (pa_cons pe_int (pa_cons pe_str (pa_cons pe_int (pa_cons pe_non pa_nil))))) pa_nil))) pa_nil))))) (pss_one (ps_if (pt_cmpR (op_eqDk (K := K) (Room.units hr)) (pv 3) pe_int (nomark _)) (pss_one (ps_set (i := 2) sc_law_bent_piece.nd rfl (Or.inl rfl) (pe_slice (sl_Uk (K := K)) (pv 2) po_none (po_some (pe_un un_neg pe_int))))) (pss_one (ps_if (pt_cmpR (op_eqDk (K := K) (Room.units hr)) (pv 3) pe_int (nomark _)) (pss_one (ps_asg (peg_cal c_law_pick hr (by decide) ng rfl (pa_cons (pv 0) (pa_cons (pe_lst (pa_cons pe_str (pa_cons pe_str (pa_cons pe_str (pa_cons pe_str (pa_cons pe_non (pa_cons pe_str (pa_cons pe_bl pa_nil)))))))) pa_nil))) (pg_sub (pv 2) pe_int set_list))) (pss_one (ps_asg (peg_cal c_law_pick hr (by decide) ng rfl (pa_cons (pv 0) (pa_cons (pe_lst (pa_cons pe_str (pa_cons pe_str (pa_cons pe_str (pa_cons (pe_op (op_mulUk (K := K)) pe_str pe_int) (pa_cons (pe_op (op_mulUk (K := K)) pe_str pe_int) (pa_cons pe_str (pa_cons pe_str (pa_cons pe_str (pa_cons pe_int (pa_cons (pe_un un_neg pe_int) (pa_cons pe_bl (pa_cons pe_non (pa_cons pe_str (pa_cons (pe_lst (pa_cons pe_str pa_nil)) (pa_cons (pe_op op_pow pe_int pe_int) (pa_cons pe_str (pa_cons pe_str pa_nil)))))))))))))))))) pa_nil))) (pg_sub (pv 2) (pv 4) set_list))))))))
 (pss_one (ps_ret (pe_callTy (call_tuple_ofk (K := K)) (by rfl) T.b_tuple (by decide +kernel) (pa_cons (pv 2) pa_nil))))))), rfl⟩) (Nat.le_of_eq (by kernel_rfl)) fun ds hp => ?_
  · match ds, h with
    | [_], _ => rfl
  · match ds, hp with
    | [piece_], hp => exact w_at (u_law_bent_piece T) (v_law_bent_piece T hp) rfl rfl rfl
end
end K67
set_option maxRecDepth 100000
set_option maxHeartbeats 8000000
namespace K67
open PySem L2 PyProof.Rows DL
section
variable {P : Program} {w : World} {K : PySem.W.Frag} {mg : Str → Option Value} {base : Heap} {a_QUOTING a_BadBody i_BadBody : Addr}
local macro_rules | `(tactic| walk_at "w") => `(tactic| simp (config := { maxSteps := 10000000 }) only [DL.sub_un, DL.sub_pen, DL.sub_dat, DL.dsub_non, DL.dsub_bl, DL.dsub_int, DL.dsub_str, DL.dsub_ptr, DL.dsub_lst, DL.dsub_tup, DL.dsub_err, DL.dsubs_nil, DL.dsubs_cons, DL.w_isX, DL.w_isP, DL.w_sset, DL.w_enumU, DL.n_sortedE, DL.w_join, DL.w_ixO, DL.w_setAt, DL.ownI_0, DL.ownI_s, DL.w_wflc, DL.w_wflist, DL.w_asgF, DL.w_par3, DL.w_par3F, DL.w_lam, DL.w_toldA, DL.np_un, DL.np_dat, DL.np_own, DL.np_pen, DL.w_tryRaise, DL.chW_cons, DL.w_tryRaise0, DL.ch0_cons, DL.w_parOL, DL.owAt_0, DL.owAt_s, DL.w_pvar, DL.w_name, DL.w_tell, DL.w_appendO, DL.w_mkE, DL.w_mkE0, DL.w_fldX, DL.w_var, DL.w_int, DL.w_bl, DL.w_str, DL.w_non, DL.w_ktup, DL.w_op, DL.w_neg, DL.w_chain, DL.w_nil, DL.w_cons, DL.w_tup, DL.w_lst, DL.w_tst, DL.w_tb, DL.w_not, DL.w_yes, DL.w_and, DL.w_or, DL.w_andV, DL.w_orV, DL.w_notV, DL.w_ite, DL.w_none, DL.w_some, DL.w_sl, DL.w_cb, DL.w_isi, DL.w_isi2, DL.w_call, DL.w_callD, DL.w_callX, DL.w_callG, DL.w_split, DL.w_dget, DL.w_knil, DL.w_kcons, DL.w_dispK, DL.w_seqI, DL.w_rng1, DL.w_rng2, DL.w_enum, DL.w_zip, DL.w_lc, DL.w_borrow, DL.w_up, DL.w_popAt, DL.w_next, DL.w_brk, DL.w_cont, DL.w_seq, DL.w_ret, DL.w_retN, DL.w_asg, DL.w_asgT, DL.w_asgOwn, DL.w_drop, DL.w_ifS, DL.w_append, DL.w_raiseO, DL.w_xf, DL.w_tryAsg, DL.w_mkX, DL.w_fldR, DL.w_fld, DL.w_isC, DL.q_eqO, DL.q_neO, DL.w_tryMk, DL.slfAt_0, DL.slfAt_s, DL.w_asgLend, DL.lendAt_o, DL.lendAt_d, DL.lendAt_s, DL.w_borrowD, DL.w_asgIteL, DL.w_frz, frzAt_0, frzAt_d, frzAt_u, frzAt_s, DL.w_forS, DL.w_par, DL.w_parLE,
  DL.q_int, DL.q_cmp, DL.q_intC, DL.q_addI, DL.q_addS, DL.q_addT, DL.q_addL, DL.q_mulI, DL.q_mulS, DL.q_mulL, DL.q_eq, DL.q_ne, DL.q_isN, DL.q_isB, DL.q_notN, DL.q_inT, DL.q_inL, DL.q_inS, DL.q_ninT, DL.q_ninL, DL.q_ninS, DL.q_ixL, DL.q_ixT, DL.q_ixS, DL.n_len, DL.n_list, DL.n_tuple, DL.n_all, DL.n_any, DL.n_sum, DL.n_sortedS, DL.n_min2, DL.n_max2, DL.n_int1, DL.n_int2, DL.n_int2b, DL.q_neS, DL.q_innE, DL.q_ninE, DL.w_dct0, DL.q_eqS, DL.n_strI, DL.n_repr, DL.g_name, DL.is_name, DL.is_tupG, DL.is_seqG, DL.is_consG, DL.is_nilG, cut_tup, cut_lst,  isi_str, isi_int, isi_bool, isi_tuple, isi_list,
  datAt_0, datAt_s, ownAt_0, ownAt_s, penIs_0, penIs_s, setD_nil, setD_cons, wipeG, List.set_cons_zero, List.set_cons_succ, List.set_nil, List.map_cons, List.map_nil, List.cons_append, List.nil_append,
  D.bl.injEq, D.int.injEq, D.str.injEq, exists_eq_left', exists_eq_left, exists_and_left, exists_eq', exists_eq, true_and, and_true, true_imp_iff, false_imp_iff, Bool.true_eq_false, Bool.false_eq_true, forall_const, Bool.not_true, Bool.not_false, List.length_cons, List.length_nil, eqv_str, eqv_int, ok_int, ok_bl, ok_non, forall_eq, atI_0, atI_1, atI_2, atI_3, List.getElem?_cons_zero, List.getElem?_cons_succ, List.getElem?_nil, Option.some.injEq, Sk.own.injEq, len_tup, len_lst, its_tup, its_lst, itemsOf_tup, itemsOf_lst, itemsOf_str, isS_str, isT_tup, isL_lst, isI_int, isB_bl, builtin_str, builtin_tup, builtin_lst, builtin_int, builtin_bl, builtin_non, D.sign_one, List.all_cons, List.all_nil, Bool.and_true])

mutual
theorem dup_of_plain : ∀ d : D, d.plain = true → d.dup = true
  | .non, _ => rfl | .bl _, _ => rfl | .int _, _ => rfl | .str _, _ => rfl
  | .lst ds, h => dups_of_plain ds h
  | .tup ds, h => dups_of_plain ds h
  | .dct _ _, h => absurd (show false = true from h) (by decide)
  | .dcf _ _, h => absurd (show false = true from h) (by decide)
  | .dtf _ _, h => absurd (show false = true from h) (by decide)
  | .obj _ _ _, h => absurd (show false = true from h) (by decide)
  | .exc _ _ _ _, h => absurd (show false = true from h) (by decide)
  | .ptr _, h => absurd (show false = true from h) (by decide)
  | .err _ _ _, h => absurd (show false = true from h) (by decide)
theorem dups_of_plain : ∀ ds : List D, D.plains ds = true → D.dups ds = true
  | [], _ => rfl
  | d :: ds, h => by
    have h' := Bool.and_eq_true_iff.mp (show (D.plain d && D.plains ds) = true from h)
    exact Bool.and_eq_true_iff.mpr ⟨dup_of_plain d h'.1, dups_of_plain ds h'.2⟩
end
/-- a value that was made for the law: it may be asked, and compared with its like -/
structure MB (d : D) : Prop where
  bv : BVb d
  dup : d.dup = true
  dep : d.py.depth ≤ 50
theorem MB.gd {k n : Nat} {d : D} (h : GD k n d) (a : k ≤ 50 := by decide) (b : n ≤ 10000000 := by decide) : MB d := ⟨.inl (.inl (h.mono (by omega) b)), dup_of_plain d h.pl, by have := h.dep; omega⟩
theorem MB.dct : MB (.dct [] []) := ⟨.inl (.inr rfl), rfl, by decide⟩
theorem mb_items {es : List D} (h : ∀ x ∈ es, GD 4 12000 x ∨ x = .dct [] []) : D.dups es = true ∧ PyData.depthAll (D.pys es) ≤ 4 := by
  induction es with
  | nil => exact ⟨rfl, by decide⟩
  | cons d ds ih =>
    obtain ⟨h1, h2⟩ := ih fun x hx => h x (List.mem_cons_of_mem _ hx)
    have h3 : d.dup = true ∧ d.py.depth ≤ 4 := by
      rcases h d List.mem_cons_self with g | rfl
      · exact ⟨dup_of_plain d g.pl, g.dep⟩
      · exact ⟨rfl, by decide⟩
    exact ⟨Bool.and_eq_true_iff.mpr ⟨h3.1, h1⟩, Nat.max_le.mpr ⟨h3.2, h2⟩⟩
theorem mb_bvp {es : List D} (h : ∀ x ∈ es, GD 4 12000 x ∨ x = .dct [] []) : ∀ x ∈ es, BVp x := fun x hx => (h x hx).imp (fun g => g.mono (by decide) (by decide)) id
theorem mb_lst {es : List D} (h : ∀ x ∈ es, GD 4 12000 x ∨ x = .dct [] []) : MB (.lst es) := ⟨.inr ⟨es, rfl, mb_bvp h⟩, (mb_items h).1, by have := (mb_items h).2; show _ + 1 ≤ 50; omega⟩
theorem mb_tup {es : List D} (h : ∀ x ∈ es, GD 4 12000 x ∨ x = .dct [] []) : MB (.tup es) := ⟨.inr ⟨es, rfl, mb_bvp h⟩, (mb_items h).1, by have := (mb_items h).2; show _ + 1 ≤ 50; omega⟩
theorem mb_pick {es : List D} (h : ∀ x ∈ es, GD 4 12000 x ∨ x = .dct [] []) {d : D} (hd : d ∈ [D.tup es, D.tup es, D.tup es, D.non, D.int 5, D.str "ab", D.dct [] []]) : MB d := by
  simp only [List.mem_cons, List.not_mem_nil, or_false] at hd
  rcases hd with rfl | rfl | rfl | rfl | rfl | rfl | rfl
  · exact mb_tup h
  · exact mb_tup h
  · exact mb_tup h
  · exact MB.gd (k := 1) (n := 10) GD.non
  · exact MB.gd (k := 1) (n := 2000) (gdb_of (by decide +kernel))
  · exact MB.gd (k := 1) (n := 100) gdS
  · exact MB.dct
abbrev m_law_made_body : Nat := 557324
abbrev pre_law_made_body : List D → Prop
  | [] => True
  | _ => False
abbrev post_law_made_body : List D → D → Prop
  | [], r => MB r
  | _, _ => False
def u_law_made_body (T : Txt K mg a_QUOTING a_BadBody i_BadBody) : WS K L2.E0 := (WS.seq (WS.asgF 1 (WF.lc (WI.rng1 (WA.cons (WE.callG m_law_pick pre_law_pick post_law_pick 0 (WA.cons (WE.lst (WA.cons (WE.int 0) (WA.cons (WE.int 1) (WA.cons (WE.int 2) (WA.cons (WE.int 5) (WA.cons (WE.int 20) (WA.cons (WE.int 21) WA.nil))))))) WA.nil)) WA.nil)) (WG.name 3) WT.yes (WE.callG m_law_wide_piece pre_law_wide_piece post_law_wide_piece 0 WA.nil) 64))
 (WS.seq (WS.ifS (WT.and (WT.tst (WE.borrow 1 (WE.op O2.ne (WE.var 1) (WE.lst WA.nil)))) (WT.tst (WE.op O2.eq (WE.callG m_law_draw pre_law_draw post_law_draw 0 (WA.cons (WE.int 2) WA.nil)) (WE.int 0))))
 (WS.seq (WS.asg 2 (WM.up (WE.callG m_law_draw pre_law_draw post_law_draw 0 (WA.cons (WE.borrow 1 (WE.cb ON.len (WA.cons (WE.var 1) WA.nil))) WA.nil))))
 (WS.setAt 1 (WE.var 2) (WE.callG m_law_bent_piece pre_law_bent_piece post_law_bent_piece 0 (WA.cons (WE.ixO 1 (WE.var 2)) WA.nil))))
 WS.next)
 (WS.frz 1 (WS.ret (WM.up (WE.ite (WT.tst (WE.op O2.eq (WE.callG m_law_draw pre_law_draw post_law_draw 0 (WA.cons (WE.int 12) WA.nil)) (WE.int 0))) (WE.var 1) (WE.ite (WT.tst (WE.op O2.eq (WE.callG m_law_draw pre_law_draw post_law_draw 0 (WA.cons (WE.int 6) WA.nil)) (WE.int 0))) (WE.callG m_law_pick pre_law_pick post_law_pick 0 (WA.cons (WE.lst (WA.cons (WE.cb ON.tuple (WA.cons (WE.var 1) WA.nil)) (WA.cons (WE.cb ON.tuple (WA.cons (WE.var 1) WA.nil)) (WA.cons (WE.cb ON.tuple (WA.cons (WE.var 1) WA.nil)) (WA.cons WE.non (WA.cons (WE.int 5) (WA.cons (WE.str "ab") (WA.cons WE.dct0 WA.nil)))))))) WA.nil)) (WE.cb ON.tuple (WA.cons (WE.var 1) WA.nil)))))))))
theorem v_law_made_body (T : Txt K mg a_QUOTING a_BadBody i_BadBody) (hp : True) : (u_law_made_body T).w noX [.pen, .un, .un, .un] (retW fun r => MB r) := by
  unfold u_law_made_body
  walk_at "w"
  try simp only [pre_law_wide_piece, post_law_wide_piece, pre_law_draw, post_law_draw, pre_law_bent_piece, post_law_bent_piece, pre_law_pick, post_law_pick]
  try walk_at "w"
  try simp only [pre_law_wide_piece, post_law_wide_piece, pre_law_draw, post_law_draw, pre_law_bent_piece, post_law_bent_piece, pre_law_pick, post_law_pick]
  try walk_at "w"

  refine ⟨by decide, .inl ⟨by decide, by decide⟩, fun d hd => ?_⟩
  obtain ⟨i, hi, rfl⟩ := ints_of (is := [0, 1, 2, 5, 20, 21]) (pick_l hd)
  have h21 : 0 ≤ i ∧ i ≤ 21 := by
    simp only [List.mem_cons, List.not_mem_nil, or_false] at hi; omega
  refine ⟨i, rfl, ⟨by omega, by omega⟩, LcP.each (fun x => GD 3 8000 x ∧ ∃ a l, x = .tup (a :: l) ∧ l.length ≤ 3) (by simp; omega) (fun x hx => ⟨_, rfl, ?_⟩) fun es hl hs => ?_⟩
  · walk_at "w"
    exact fun d h => h
  · rw [rngD_len] at hl
    have l21 : es.length ≤ 21 := by omega
    have hok : (D.lst es).ok = true := okL (n := 8000) fun d hd => (hs d hd).1.mono (by decide) (by decide)
    have he : ∀ x ∈ es, GD 4 12000 x ∨ x = .dct [] [] := fun x hx => .inl ((hs x hx).1.mono (by decide) (by decide))
    refine ⟨es, rfl, by decide, hok, ok_nil, rfl, fun h1 => ⟨by decide, ?_⟩, fun h1 => ?_⟩
    · have hne : 0 < es.length := by
        cases es with
        | nil => exact absurd h1 (by decide +kernel)
        | cons _ _ => exact Nat.succ_pos _
      rintro d ⟨k, rfl, k0, k1⟩
      walk_at "w"
      refine ⟨fun _ => ⟨rfl, ⟨by omega, by omega⟩, ?_⟩, fun _ => by (refine ⟨by decide, ?_⟩; intro d9 hd9; obtain ⟨k9, e9, k90, k91⟩ := hd9; subst e9; refine ⟨rfl, fun _ => mb_lst he, fun _ => ⟨by decide, ?_⟩⟩; intro d9 hd9; obtain ⟨k9, e9, k90, k91⟩ := hd9; subst e9; exact ⟨rfl, fun _ => ⟨by decide, .inl ⟨by decide, by decide⟩, fun d hd => mb_pick he (pick_l hd)⟩, fun _ => mb_tup he⟩)⟩
      rintro d ⟨j, rfl, j0, j1⟩
      have hj : j.toNat < es.length := by omega
      refine ⟨j, rfl, es[j.toNat], ?_, hs _ (List.getElem_mem hj), fun d2 h2 => ⟨j.toNat, by rw [Int.toNat_of_nonneg j0], hj, ?_⟩⟩
      · have n1 : ¬ j < 0 := by omega
        have n2 : j.toNat < es.length := hj
        simp [L2.atI, L2.ixN, n1, n2, j0, j1]
      · have he2 : ∀ x ∈ es.set j.toNat d2, GD 4 12000 x ∨ x = .dct [] [] := fun x hx => by
          rcases List.mem_or_eq_of_mem_set hx with q | rfl
          · exact he x q
          · exact h2
        (refine ⟨by decide, ?_⟩; intro d9 hd9; obtain ⟨k9, e9, k90, k91⟩ := hd9; subst e9; refine ⟨rfl, fun _ => mb_lst he2, fun _ => ⟨by decide, ?_⟩⟩; intro d9 hd9; obtain ⟨k9, e9, k90, k91⟩ := hd9; subst e9; exact ⟨rfl, fun _ => ⟨by decide, .inl ⟨by decide, by decide⟩, fun d hd => mb_pick he2 (pick_l hd)⟩, fun _ => mb_tup he2⟩)
    · (refine ⟨by decide, ?_⟩; intro d9 hd9; obtain ⟨k9, e9, k90, k91⟩ := hd9; subst e9; refine ⟨rfl, fun _ => mb_lst he, fun _ => ⟨by decide, ?_⟩⟩; intro d9 hd9; obtain ⟨k9, e9, k90, k91⟩ := hd9; subst e9; exact ⟨rfl, fun _ => ⟨by decide, .inl ⟨by decide, by decide⟩, fun d hd => mb_pick he (pick_l hd)⟩, fun _ => mb_tup he⟩)
theorem c_law_made_body (X : Defs K mg a_QUOTING a_BadBody i_BadBody) (T : Txt K mg a_QUOTING a_BadBody i_BadBody) : Cal P w K mg base "_law_made_body" 5 ["pen"] [] (SpG K m_law_made_body pre_law_made_body post_law_made_body) := by
  have c_law_wide_piece := c_law_wide_piece (P := P) (w := w) (base := base) X T
  have c_law_draw := c_law_draw (P := P) (w := w) (base := base) X T
  have c_law_bent_piece := c_law_bent_piece (P := P) (w := w) (base := base) X T
  have c_law_pick := c_law_pick (P := P) (w := w) (base := base) X T
  refine cal_WG (N := N_law_made_body) (u_law_made_body T) X.d_law_made_body sc_law_made_body (fun ds h => ?_) (fun f cdv A outer s H E hr ng => ⟨_, (pss_cons (ps_setLc (i := 1) (own := [("k", 3)]) (g := (gName 3)) (tt := tYes) (by rfl) sc_law_made_body.nd rfl rfl (sw_true rfl rfl rfl (by decide +kernel)) (pi_range1 rfl T.b_range (pa_cons (peg_cal c_law_pick hr (by decide) ng rfl (pa_cons (pv 0) (pa_cons (pe_lst (pa_cons pe_int (pa_cons pe_int (pa_cons pe_int (pa_cons pe_int (pa_cons pe_int (pa_cons pe_int pa_nil))))))) pa_nil))) pa_nil)) (blkOk_by (own := [("k", 3)]) (N := N_law_made_body) (sc := defScope s_law_made_body) (by decide +kernel)) (fun _ _ _ _ _ => (pg_name (i := 3) sc_law_made_body.nd rfl (Or.inl rfl))) (fun _ _ _ _ _ => pts_nil) (fun _ _ _ _ _ => (peg_cal c_law_wide_piece hr (by decide) ng rfl (pa_cons (pv 0) pa_nil))))
 (pss_cons (ps_if (PW.pt (pw_and (pt_cmpR (op_neDk (K := K) (Room.units hr)) (pv 1) (pe_lst pa_nil) (nomark _)) (pw_and1 (pt_cmpR (op_eqDk (K := K) (Room.units hr)) (peg_cal c_law_draw hr (by decide) ng rfl (pa_cons (pv 0) (pa_cons pe_int pa_nil))) pe_int (nomark _))))) (pss_cons (ps_set (i := 2) sc_law_made_body.nd rfl (Or.inl rfl) (peg_cal c_law_draw hr (by decide) ng rfl (pa_cons (pv 0) (pa_cons (pe_callB (call_lenk (K := K)) (by rfl) T.b_len (by decide +kernel) (pa_cons (pv 1) pa_nil)) pa_nil))))
 (pss_one (ps_asg (peg_cal c_law_bent_piece hr (by decide) ng rfl (pa_cons (pv 0) (pa_cons (pe_ix (ix_seqk (K := K)) (pv 1) (pv 2) (fun _ _ => rfl)) pa_nil))) (pg_sub (pv 1) (pv 2) set_list)))) pss_nil)
 (pss_one (ps_ret (pe_ifExp (pt_cmpR (op_eqDk (K := K) (Room.units hr)) (peg_cal c_law_draw hr (by decide) ng rfl (pa_cons (pv 0) (pa_cons pe_int pa_nil))) pe_int (nomark _)) (pv 1) (pe_ifExp (pt_cmpR (op_eqDk (K := K) (Room.units hr)) (peg_cal c_law_draw hr (by decide) ng rfl (pa_cons (pv 0) (pa_cons pe_int pa_nil))) pe_int (nomark _)) (peg_cal c_law_pick hr (by decide) ng rfl (pa_cons (pv 0) (pa_cons (pe_lst (pa_cons (pe_callTy (call_tuple_ofk (K := K)) (by rfl) T.b_tuple (by decide +kernel) (pa_cons (pv 1) pa_nil)) (pa_cons (pe_callTy (call_tuple_ofk (K := K)) (by rfl) T.b_tuple (by decide +kernel) (pa_cons (pv 1) pa_nil)) (pa_cons (pe_callTy (call_tuple_ofk (K := K)) (by rfl) T.b_tuple (by decide +kernel) (pa_cons (pv 1) pa_nil)) (pa_cons pe_non (pa_cons pe_int (pa_cons pe_str (pa_cons (pe_dnewK) pa_nil)))))))) pa_nil))) (pe_callTy (call_tuple_ofk (K := K)) (by rfl) T.b_tuple (by decide +kernel) (pa_cons (pv 1) pa_nil)))))))), rfl⟩) (Nat.le_of_eq (by kernel_rfl)) fun ds hp => ?_
  · match ds, h with
    | [], _ => rfl
  · match ds, hp with
    | [], hp => exact w_at (u_law_made_body T) (v_law_made_body T hp) rfl rfl rfl
end
end K67
set_option maxRecDepth 100000
set_option maxHeartbeats 8000000
namespace K67
open PySem L2 PyProof.Rows DL
section
variable {P : Program} {w : World} {K : PySem.W.Frag} {mg : Str → Option Value} {base : Heap} {a_QUOTING a_BadBody i_BadBody : Addr}
local macro_rules | `(tactic| walk_at "w") => `(tactic| simp (config := { maxSteps := 10000000 }) only [DL.sub_un, DL.sub_pen, DL.sub_dat, DL.dsub_non, DL.dsub_bl, DL.dsub_int, DL.dsub_str, DL.dsub_ptr, DL.dsub_lst, DL.dsub_tup, DL.dsub_err, DL.dsubs_nil, DL.dsubs_cons, DL.w_isX, DL.w_isP, DL.w_sset, DL.w_enumU, DL.n_sortedE, DL.w_join, DL.w_ixO, DL.w_setAt, DL.ownI_0, DL.ownI_s, DL.w_wflc, DL.w_wflist, DL.w_asgF, DL.w_par3, DL.w_par3F, DL.w_lam, DL.w_toldA, DL.np_un, DL.np_dat, DL.np_own, DL.np_pen, DL.w_tryRaise, DL.chW_cons, DL.w_tryRaise0, DL.ch0_cons, DL.w_parOL, DL.owAt_0, DL.owAt_s, DL.w_pvar, DL.w_name, DL.w_tell, DL.w_appendO, DL.w_mkE, DL.w_mkE0, DL.w_fldX, DL.w_var, DL.w_int, DL.w_bl, DL.w_str, DL.w_non, DL.w_ktup, DL.w_op, DL.w_neg, DL.w_chain, DL.w_nil, DL.w_cons, DL.w_tup, DL.w_lst, DL.w_tst, DL.w_tb, DL.w_not, DL.w_yes, DL.w_and, DL.w_or, DL.w_andV, DL.w_orV, DL.w_notV, DL.w_ite, DL.w_none, DL.w_some, DL.w_sl, DL.w_cb, DL.w_isi, DL.w_isi2, DL.w_call, DL.w_callD, DL.w_callX, DL.w_callG, DL.w_split, DL.w_dget, DL.w_knil, DL.w_kcons, DL.w_dispK, DL.w_seqI, DL.w_rng1, DL.w_rng2, DL.w_enum, DL.w_zip, DL.w_lc, DL.w_borrow, DL.w_up, DL.w_popAt, DL.w_next, DL.w_brk, DL.w_cont, DL.w_seq, DL.w_ret, DL.w_retN, DL.w_asg, DL.w_asgT, DL.w_asgOwn, DL.w_drop, DL.w_ifS, DL.w_append, DL.w_raiseO, DL.w_xf, DL.w_tryAsg, DL.w_mkX, DL.w_fldR, DL.w_fld, DL.w_isC, DL.q_eqO, DL.q_neO, DL.w_tryMk, DL.slfAt_0, DL.slfAt_s, DL.w_asgLend, DL.lendAt_o, DL.lendAt_d, DL.lendAt_s, DL.w_borrowD, DL.w_asgIteL, DL.w_frz, frzAt_0, frzAt_d, frzAt_u, frzAt_s, DL.w_forS, DL.w_par, DL.w_parLE,
  DL.q_int, DL.q_cmp, DL.q_intC, DL.q_addI, DL.q_addS, DL.q_addT, DL.q_addL, DL.q_mulI, DL.q_mulS, DL.q_mulL, DL.q_eq, DL.q_ne, DL.q_isN, DL.q_isB, DL.q_notN, DL.q_inT, DL.q_inL, DL.q_inS, DL.q_ninT, DL.q_ninL, DL.q_ninS, DL.q_ixL, DL.q_ixT, DL.q_ixS, DL.n_len, DL.n_list, DL.n_tuple, DL.n_all, DL.n_any, DL.n_sum, DL.n_sortedS, DL.n_min2, DL.n_max2, DL.n_int1, DL.n_int2, DL.n_int2b, DL.q_neS, DL.q_innE, DL.q_ninE, DL.w_dct0, DL.q_eqS, DL.n_strI, DL.n_repr, DL.g_name, DL.is_name, DL.is_tupG, DL.is_seqG, DL.is_consG, DL.is_nilG, cut_tup, cut_lst,  isi_str, isi_int, isi_bool, isi_tuple, isi_list,
  datAt_0, datAt_s, ownAt_0, ownAt_s, penIs_0, penIs_s, setD_nil, setD_cons, wipeG, List.set_cons_zero, List.set_cons_succ, List.set_nil, List.map_cons, List.map_nil, List.cons_append, List.nil_append,
  D.bl.injEq, D.int.injEq, D.str.injEq, exists_eq_left', exists_eq_left, exists_and_left, exists_eq', exists_eq, true_and, and_true, true_imp_iff, false_imp_iff, Bool.true_eq_false, Bool.false_eq_true, forall_const, Bool.not_true, Bool.not_false, List.length_cons, List.length_nil, eqv_str, eqv_int, ok_int, ok_bl, ok_non, forall_eq, atI_0, atI_1, atI_2, atI_3, List.getElem?_cons_zero, List.getElem?_cons_succ, List.getElem?_nil, Option.some.injEq, Sk.own.injEq, len_tup, len_lst, its_tup, its_lst, itemsOf_tup, itemsOf_lst, itemsOf_str, isS_str, isT_tup, isL_lst, isI_int, isB_bl, builtin_str, builtin_tup, builtin_lst, builtin_int, builtin_bl, builtin_non, D.sign_one, List.all_cons, List.all_nil, Bool.and_true])

def tS_law_why_body (T : Txt K mg a_QUOTING a_BadBody i_BadBody) : ToldS K := ToldS.A N_law_why_body 1 [⟨.ref a_BadBody, 2, fun a cls d => (WS.asg 1 (WM.up (WE.lst (WA.cons (WE.str "body") (WA.cons (WE.xf a cls d a_BadBody "body" (WE.var 2)) WA.nil)))))⟩] 0 (by intro q hq a c d; simp only [List.mem_cons, List.not_mem_nil, or_false] at hq; rcases hq with rfl <;> exact Nat.le_refl _) (by decide)
theorem told_law_why_body (T : Txt K mg a_QUOTING a_BadBody i_BadBody) : Told P w K mg base "_law_why_body" N_law_why_body s_law_why_body "call" (tS_law_why_body T).T := by
  intro g cdg A outer s H f c' q tl act
  obtain ⟨t, ht, et⟩ : ∃ t, PSs (cxOf CX0 P w K mg base N_law_why_body "_law_why_body" (defScope s_law_why_body) g cdg A outer s H C8.E0).nox (defBody s_law_why_body) t ∧ t = (tS_law_why_body T).T f c' q tl := ⟨_, (pss_cons (ps_set (i := 1) sc_law_why_body.nd rfl (Or.inl rfl) pe_non)
 (pss_cons (ps_try_someAs (l := (clT (K := K) (E := L2.E0) [⟨.ref a_BadBody, 2, fun a cls d => (WS.asg 1 (WM.up (WE.lst (WA.cons (WE.str "body") (WA.cons (WE.xf a cls d a_BadBody "body" (WE.var 2)) WA.nil)))))⟩])) (tb := fun W => fun En σ H => tDrop (tThk f c' q tl W) En σ H) (Wo := fun cls d _ H => L2.E0 cls d H) rfl rfl sc_law_why_body.nd takes0 (fun W pn xe tk _ => pss_one (ps_expr (act W pn xe _ _ tk))) (.cons (i := 2) ⟨rfl, by decide, Or.inl T.x_BadBody.m⟩ rfl rfl (fun a oe cls d pn hz hf => (pss_one (ps_set (i := 1) sc_law_why_body.nd rfl (Or.inl rfl) (pe_lst (pa_cons pe_str (pa_cons (pe_xf T.x_BadBody.xf (T.x_BadBody.no _ (by simp)) hz hf (pv 2)) pa_nil)))))) .nil))
 (pss_one (ps_ret (pv 1))))), rfl⟩
  exact et ▸ ht
end
end K67
set_option maxRecDepth 100000
set_option maxHeartbeats 8000000
namespace K67
open PySem L2 PyProof.Rows DL
/-! ### good data without a bound of the text -/
def GE (k : Nat) (d : D) : Prop := ∃ n, GD k n d
theorem ge_all {k : Nat} : ∀ {ds : List D}, (∀ d ∈ ds, GE k d) → ∃ n, GDs k n ds
  | [], _ => ⟨0, GDs.nil⟩
  | d :: ds, h => by
    obtain ⟨n, h1⟩ := h d List.mem_cons_self
    obtain ⟨m, h2⟩ := ge_all fun x hx => h x (List.mem_cons_of_mem _ hx)
    exact ⟨_, GDs.cons h1 h2⟩
theorem GE.tup {k : Nat} {ds : List D} (h : ∀ d ∈ ds, GE k d) : GE (k + 1) (.tup ds) := by
  obtain ⟨n, h⟩ := ge_all h
  exact ⟨_, h.tup⟩
theorem GE.lst {k : Nat} {ds : List D} (h : ∀ d ∈ ds, GE k d) : GE (k + 1) (.lst ds) := by
  obtain ⟨n, h⟩ := ge_all h
  exact ⟨_, h.lst⟩
theorem GE.ok {k : Nat} {d : D} (h : GE k d) (hk : k ≤ 64 := by decide) : d.ok = true := h.elim fun _ h => h.ok hk
theorem GE.mono {k k' : Nat} {d : D} (h : GE k d) (hk : k ≤ k') : GE k' d := h.elim fun _ h => ⟨_, h.mono hk (Nat.le_refl _)⟩
theorem GE.strE {k n : Nat} {z : Str} (h : GD k n (.str z)) : GE 0 (.str z) := ⟨_, .str h.strOk (Nat.le_refl _)⟩
theorem GE.intE {k n : Nat} {z : Int} (h : GD k n (.int z)) : GE 0 (.int z) := ⟨n, h.pl, h.lay, h.sh, Nat.zero_le _, h.w⟩
mutual
theorem eqv_self : ∀ d : D, d.plain = true → d.eqv d = true
  | .non, _ => rfl
  | .bl _, _ => by simp [D.eqv, D.py, PyData.eqv]
  | .int _, _ => by simp [D.eqv, D.py, PyData.eqv]
  | .str _, _ => by simp [D.eqv, D.py, PyData.eqv]
  | .lst ds, h => by
    have := eqvs_self ds h
    simpa [D.eqv, D.py, PyData.eqv] using this
  | .tup ds, h => by
    have := eqvs_self ds h
    simpa [D.eqv, D.py, PyData.eqv] using this
  | .dct _ _, h => absurd (show false = true from h) (by decide)
  | .dcf _ _, h => absurd (show false = true from h) (by decide)
  | .dtf _ _, h => absurd (show false = true from h) (by decide)
  | .obj _ _ _, h => absurd (show false = true from h) (by decide)
  | .exc _ _ _ _, h => absurd (show false = true from h) (by decide)
  | .ptr _, h => absurd (show false = true from h) (by decide)
  | .err _ _ _, h => absurd (show false = true from h) (by decide)
theorem eqvs_self : ∀ ds : List D, D.plains ds = true → PyData.eqvAll (D.pys ds) (D.pys ds) = true
  | [], _ => rfl
  | d :: ds, h => by
    have h' := Bool.and_eq_true_iff.mp (show (D.plain d && D.plains ds) = true from h)
    show PyData.eqvAll (D.py d :: D.pys ds) (D.py d :: D.pys ds) = true
    unfold PyData.eqvAll
    rw [Bool.and_eq_true]
    exact ⟨eqv_self d h'.1, eqvs_self ds h'.2⟩
end
theorem ok_self {d : D} (h : d.ok = true) : d.eqv d = true := eqv_self d (D.ok_plain h)
/-! ### the first ones of each kind -/
def firsts (h : D → Bool) : List D → List D → List D
  | _, [] => []
  | p, d :: ds => if h d && !anyE d p then d :: firsts h (p ++ [d]) ds else firsts h (p ++ [d]) ds
def bE (h : D → Bool) (ds : List D) : D → Bool
  | .tup [.int i, x] => h x && !anyE x (ds.take i.toNat)
  | _ => false
def fE (f : D → D) : D → D
  | .tup [_, x] => f x
  | d => d
theorem firsts_aux (h : D → Bool) (f : D → D) : ∀ (ds p : List D), (((ds.zipIdx p.length).map fun q => D.tup [.int (q.2 : Int), q.1]).filter (bE h (p ++ ds))).map (fE f) = (firsts h p ds).map f
  | [], p => rfl
  | d :: ds, p => by
    have ih := firsts_aux h f ds (p ++ [d])
    rw [List.length_append, List.append_assoc, List.singleton_append] at ih
    have e : bE h (p ++ d :: ds) (D.tup [.int ((p.length : Nat) : Int), d]) = (h d && !anyE d p) := by
      show (h d && !anyE d ((p ++ d :: ds).take (((p.length : Nat) : Int)).toNat)) = _
      rw [Int.toNat_natCast, List.take_left]
    rw [List.zipIdx_cons, List.map_cons, List.filter_cons, e, firsts]
    split
    · rw [List.map_cons, List.map_cons]; exact congrArg (f d :: ·) ih
    · exact ih
theorem firsts_enum (h : D → Bool) (f : D → D) (ds : List D) : ((enumD ds).filter (bE h ds)).map (fE f) = (firsts h [] ds).map f := firsts_aux h f ds []
theorem firsts_spec (h : D → Bool) : ∀ (ds p : List D), (∀ d ∈ ds, d.crisp = true) → (∀ d ∈ p, d.crisp = true) → (firsts h p ds).Nodup ∧ ∀ x, x ∈ firsts h p ds ↔ (x ∈ ds ∧ h x = true ∧ x ∉ p)
  | [], p, _, _ => ⟨List.nodup_nil, fun x => by simp [firsts]⟩
  | d :: ds, p, hd, hp => by
    have hd1 := hd d List.mem_cons_self
    have hd2 : ∀ x ∈ ds, x.crisp = true := fun x hx => hd x (List.mem_cons_of_mem _ hx)
    have hp2 : ∀ x ∈ p ++ [d], x.crisp = true := fun x hx => by
      rcases List.mem_append.mp hx with q | q
      · exact hp x q
      · rw [List.mem_singleton.mp q]; exact hd1
    obtain ⟨n1, m1⟩ := firsts_spec h ds (p ++ [d]) hd2 hp2
    have an := anyE_mem (x := d) (ds := p) hd1 hp
    unfold firsts
    split
    · rename_i c
      rw [Bool.and_eq_true, Bool.not_eq_true'] at c
      have np : d ∉ p := fun z => by rw [an.mpr z] at c; cases c.2
      refine ⟨List.nodup_cons.mpr ⟨fun z => ?_, n1⟩, fun x => ?_⟩
      · exact ((m1 d).mp z).2.2 (by simp)
      · rw [List.mem_cons, m1 x]
        constructor
        · rintro (rfl | ⟨a, b, c'⟩)
          · exact ⟨List.mem_cons_self, c.1, np⟩
          · exact ⟨List.mem_cons_of_mem _ a, b, fun z => c' (List.mem_append.mpr (.inl z))⟩
        · rintro ⟨a, b, c'⟩
          by_cases e : x = d
          · exact .inl e
          · refine .inr ⟨(List.mem_cons.mp a).resolve_left e, b, fun z => ?_⟩
            rcases List.mem_append.mp z with q | q
            · exact c' q
            · exact e (List.mem_singleton.mp q)
    · rename_i c
      refine ⟨n1, fun x => ?_⟩
      rw [m1 x]
      constructor
      · rintro ⟨a, b, c'⟩
        exact ⟨List.mem_cons_of_mem _ a, b, fun z => c' (List.mem_append.mpr (.inl z))⟩
      · rintro ⟨a, b, c'⟩
        have ne : x ≠ d := fun e => by
          subst e
          refine c ?_
          rw [Bool.and_eq_true, Bool.not_eq_true']
          refine ⟨b, ?_⟩
          cases q : anyE x p with
          | false => rfl
          | true => exact absurd (an.mp q) c'
        refine ⟨(List.mem_cons.mp a).resolve_left ne, b, fun z => ?_⟩
        rcases List.mem_append.mp z with q | q
        · exact c' q
        · exact ne (List.mem_singleton.mp q)
theorem piece_crisp {d : D} (h : pieceB d = true) : d.crisp = true := by
  rcases piece_view h with ⟨z, rfl⟩ | ⟨a, b, rfl⟩ | ⟨a, b, n, rfl⟩ <;> rfl
theorem nodup_map_on {α β : Type} {f : α → β} : ∀ {l : List α}, l.Nodup → (∀ x ∈ l, ∀ y ∈ l, f x = f y → x = y) → (l.map f).Nodup
  | [], _, _ => List.nodup_nil
  | a :: l, n, h => by
    rw [List.nodup_cons] at n
    rw [List.map_cons, List.nodup_cons]
    refine ⟨fun z => ?_, nodup_map_on n.2 fun x hx y hy => h x (List.mem_cons_of_mem _ hx) y (List.mem_cons_of_mem _ hy)⟩
    obtain ⟨x, hx, e⟩ := List.mem_map.mp z
    exact n.1 ((h x (List.mem_cons_of_mem _ hx) a List.mem_cons_self e) ▸ hx)
theorem firsts_keys (w : Str) (ds : List D) (h : ∀ x ∈ ds, pieceB x = true) : srtT ((firsts (headIs w) [] ds).map keysD) = ascT ((ds.filter (headIs w)).map keysD) := by
  obtain ⟨n1, m1⟩ := firsts_spec (headIs w) ds [] (fun d hd => piece_crisp (h d hd)) (fun d hd => nomatch hd)
  have nd : ((firsts (headIs w) [] ds).map keysD).Nodup := by
    refine nodup_map_on n1 fun x hx y hy e => ?_
    have hx' := (m1 x).mp hx
    have hy' := (m1 y).mp hy
    have kx := hx'.2.1
    have ky := hy'.2.1
    rcases piece_view (h x hx'.1) with ⟨z, rfl⟩ | ⟨a, b, rfl⟩ | ⟨a, b, n, rfl⟩ <;> rcases piece_view (h y hy'.1) with ⟨z', rfl⟩ | ⟨a', b', rfl⟩ | ⟨a', b', n', rfl⟩ <;> simp_all [keysD, toK]
  rw [srtT_asc nd]
  refine ascT_eq (fun k => ?_) (ascT_lt _)
  rw [ascT_mem, List.mem_map, List.mem_map]
  constructor
  · rintro ⟨x, hx, e⟩
    have := (m1 x).mp hx
    exact ⟨x, List.mem_filter.mpr ⟨this.1, this.2.1⟩, e⟩
  · rintro ⟨x, hx, e⟩
    obtain ⟨a, b⟩ := List.mem_filter.mp hx
    exact ⟨x, (m1 x).mpr ⟨a, b, fun z => nomatch z⟩, e⟩
theorem firsts_rest (w : Str) (hw : w = "see" ∨ w = "copy") (ds : List D) (h : ∀ x ∈ ds, pieceB x = true) : (firsts (headIs w) [] ds).map restD = ((firsts (headIs w) [] ds).map keysD).map tupD := by
  obtain ⟨n1, m1⟩ := firsts_spec (headIs w) ds [] (fun d hd => piece_crisp (h d hd)) (fun d hd => nomatch hd)
  rw [List.map_map]
  refine List.map_congr_left fun d hd => ?_
  obtain ⟨h1, h2, _⟩ := (m1 d).mp hd
  rcases piece_view (h d h1) with ⟨z, rfl⟩ | ⟨a, b, rfl⟩ | ⟨a, b, n, rfl⟩
  · rcases hw with rfl | rfl
    · simp [headIs, ne_ws] at h2
    · simp [headIs, ne_wc] at h2
  · rfl
  · rfl
theorem firsts_sub (w : Str) (ds : List D) (h : ∀ x ∈ ds, pieceB x = true) : ∀ k ∈ (firsts (headIs w) [] ds).map keysD, k ∈ (ds.filter (headIs w)).map keysD := fun k hk => by
  obtain ⟨n1, m1⟩ := firsts_spec (headIs w) ds [] (fun d hd => piece_crisp (h d hd)) (fun d hd => nomatch hd)
  obtain ⟨x, hx, e⟩ := List.mem_map.mp hk
  have := (m1 x).mp hx
  exact List.mem_map.mpr ⟨x, List.mem_filter.mpr ⟨this.1, this.2.1⟩, e⟩
/-! ### what is good about a right body -/
theorem body_gv {ds : List D} (h : MB (.tup ds)) (hb : ∀ x ∈ ds, pieceB x = true) : ∀ x ∈ ds, GV x := fun x hx => by
  rcases h.bv.it x hx with q | rfl
  · exact q
  · have := hb _ hx; simp [pieceB] at this
theorem piece_ge {x : D} (h : GV x) (hb : pieceB x = true) : GE 1 x ∧ GE 0 (secD x) ∧ GE 1 (restD x) := by
  rcases piece_view hb with ⟨z, rfl⟩ | ⟨a, b, rfl⟩ | ⟨a, b, n, rfl⟩
  · have h1 := GE.strE (h.it (.str "word") (by simp))
    have h2 := GE.strE (h.it (.str z) (by simp))
    exact ⟨.tup (by simp [h1, h2]), h2, .tup (by simp [h2])⟩
  · have h1 := GE.strE (h.it (.str "see") (by simp))
    have h2 := GE.strE (h.it (.str a) (by simp))
    have h3 := GE.strE (h.it (.str b) (by simp))
    exact ⟨.tup (by simp [h1, h2, h3]), h2, .tup (by simp [h2, h3])⟩
  · have h1 := GE.strE (h.it (.str "copy") (by simp))
    have h2 := GE.strE (h.it (.str a) (by simp))
    have h3 := GE.strE (h.it (.str b) (by simp))
    have h4 := GE.intE (h.it (.int n) (by simp))
    exact ⟨.tup (by simp [h1, h2, h3, h4]), h2, .tup (by simp [h2, h3, h4])⟩
theorem words_ge {ds : List D} (h : ∀ x ∈ ds, GV x) (hb : ∀ x ∈ ds, pieceB x = true) : GE 1 (wordsD (.tup ds)) := .tup fun d hd => by
  obtain ⟨x, hx, rfl⟩ := List.mem_map.mp hd
  have := (List.mem_filter.mp hx).1
  exact (piece_ge (h x this) (hb x this)).2.1
theorem quotes_ge {ds : List D} (h : ∀ x ∈ ds, GV x) (hb : ∀ x ∈ ds, pieceB x = true) : GE 2 (quotesD (.tup ds)) := .tup fun d hd => by
  obtain ⟨k, hk, rfl⟩ := List.mem_map.mp hd
  have hk := ascT_mem.mp hk
  have : tupD k ∈ (ds.filter (headIs "see")).map restD := by rw [sees_eq hb]; exact List.mem_map.mpr ⟨k, hk, rfl⟩
  obtain ⟨x, hx, e⟩ := List.mem_map.mp this
  have := (List.mem_filter.mp hx).1
  rw [← e]
  exact (piece_ge (h x this) (hb x this)).2.2
theorem copies_ge {ds : List D} (h : ∀ x ∈ ds, GV x) (hb : ∀ x ∈ ds, pieceB x = true) : GE 2 (copiesD (.tup ds)) := .tup fun d hd => by
  obtain ⟨k, hk, rfl⟩ := List.mem_map.mp hd
  have hk := ascT_mem.mp hk
  have : tupD k ∈ (ds.filter (headIs "copy")).map restD := by rw [cops_eq hb]; exact List.mem_map.mpr ⟨k, hk, rfl⟩
  obtain ⟨x, hx, e⟩ := List.mem_map.mp this
  have := (List.mem_filter.mp hx).1
  rw [← e]
  exact (piece_ge (h x this) (hb x this)).2.2
theorem all_ge {ds : List D} (h : ∀ x ∈ ds, GV x) (hb : ∀ x ∈ ds, pieceB x = true) : (D.tup [wordsD (.tup ds), quotesD (.tup ds), copiesD (.tup ds)]).ok = true := by
  refine GE.ok (k := 3) (.tup fun d hd => ?_)
  simp only [List.mem_cons, List.not_mem_nil, or_false] at hd
  rcases hd with rfl | rfl | rfl
  · exact (words_ge h hb).mono (by decide)
  · exact quotes_ge h hb
  · exact copies_ge h hb
theorem take_ok {ds : List D} (n : Nat) (h : ∀ x ∈ ds, GV x) (hb : ∀ x ∈ ds, pieceB x = true) : (D.tup (ds.take n)).ok = true :=
  GE.ok (k := 2) (.tup fun d hd => (piece_ge (h d (List.mem_of_mem_take hd)) (hb d (List.mem_of_mem_take hd))).1)
end K67
set_option maxRecDepth 100000
set_option maxHeartbeats 8000000
namespace K67
open PySem L2 PyProof.Rows DL
section
variable {P : Program} {w : World} {K : PySem.W.Frag} {mg : Str → Option Value} {base : Heap} {a_QUOTING a_BadBody i_BadBody : Addr}
local macro_rules | `(tactic| walk_at "w") => `(tactic| simp (config := { maxSteps := 10000000 }) only [DL.sub_un, DL.sub_pen, DL.sub_dat, DL.dsub_non, DL.dsub_bl, DL.dsub_int, DL.dsub_str, DL.dsub_ptr, DL.dsub_lst, DL.dsub_tup, DL.dsub_err, DL.dsubs_nil, DL.dsubs_cons, DL.w_isX, DL.w_isP, DL.w_sset, DL.w_enumU, DL.n_sortedE, DL.w_join, DL.w_ixO, DL.w_setAt, DL.ownI_0, DL.ownI_s, DL.w_wflc, DL.w_wflist, DL.w_asgF, DL.w_par3, DL.w_par3F, DL.w_lam, DL.w_toldA, DL.np_un, DL.np_dat, DL.np_own, DL.np_pen, DL.w_tryRaise, DL.chW_cons, DL.w_tryRaise0, DL.ch0_cons, DL.w_parOL, DL.owAt_0, DL.owAt_s, DL.w_pvar, DL.w_name, DL.w_tell, DL.w_appendO, DL.w_mkE, DL.w_mkE0, DL.w_fldX, DL.w_var, DL.w_int, DL.w_bl, DL.w_str, DL.w_non, DL.w_ktup, DL.w_op, DL.w_neg, DL.w_chain, DL.w_nil, DL.w_cons, DL.w_tup, DL.w_lst, DL.w_tst, DL.w_tb, DL.w_not, DL.w_yes, DL.w_and, DL.w_or, DL.w_andV, DL.w_orV, DL.w_notV, DL.w_ite, DL.w_none, DL.w_some, DL.w_sl, DL.w_cb, DL.w_isi, DL.w_isi2, DL.w_call, DL.w_callD, DL.w_callX, DL.w_callG, DL.w_split, DL.w_dget, DL.w_knil, DL.w_kcons, DL.w_dispK, DL.w_seqI, DL.w_rng1, DL.w_rng2, DL.w_enum, DL.w_zip, DL.w_lc, DL.w_borrow, DL.w_up, DL.w_popAt, DL.w_next, DL.w_brk, DL.w_cont, DL.w_seq, DL.w_ret, DL.w_retN, DL.w_asg, DL.w_asgT, DL.w_asgOwn, DL.w_drop, DL.w_ifS, DL.w_append, DL.w_raiseO, DL.w_xf, DL.w_tryAsg, DL.w_mkX, DL.w_fldR, DL.w_fld, DL.w_isC, DL.q_eqO, DL.q_neO, DL.w_tryMk, DL.slfAt_0, DL.slfAt_s, DL.w_asgLend, DL.lendAt_o, DL.lendAt_d, DL.lendAt_s, DL.w_borrowD, DL.w_asgIteL, DL.w_frz, frzAt_0, frzAt_d, frzAt_u, frzAt_s, DL.w_forS, DL.w_par, DL.w_parLE,
  DL.q_int, DL.q_cmp, DL.q_intC, DL.q_addI, DL.q_addS, DL.q_addT, DL.q_addL, DL.q_mulI, DL.q_mulS, DL.q_mulL, DL.q_eq, DL.q_ne, DL.q_isN, DL.q_isB, DL.q_notN, DL.q_inT, DL.q_inL, DL.q_inS, DL.q_ninT, DL.q_ninL, DL.q_ninS, DL.q_ixL, DL.q_ixT, DL.q_ixS, DL.n_len, DL.n_list, DL.n_tuple, DL.n_all, DL.n_any, DL.n_sum, DL.n_sortedS, DL.n_min2, DL.n_max2, DL.n_int1, DL.n_int2, DL.n_int2b, DL.q_neS, DL.q_innE, DL.q_ninE, DL.w_dct0, DL.q_eqS, DL.n_strI, DL.n_repr, DL.g_name, DL.is_name, DL.is_tupG, DL.is_seqG, DL.is_consG, DL.is_nilG, cut_tup, cut_lst,  isi_str, isi_int, isi_bool, isi_tuple, isi_list,
  datAt_0, datAt_s, ownAt_0, ownAt_s, penIs_0, penIs_s, setD_nil, setD_cons, wipeG, List.set_cons_zero, List.set_cons_succ, List.set_nil, List.map_cons, List.map_nil, List.cons_append, List.nil_append,
  D.bl.injEq, D.int.injEq, D.str.injEq, exists_eq_left', exists_eq_left, exists_and_left, exists_eq', exists_eq, true_and, and_true, true_imp_iff, false_imp_iff, Bool.true_eq_false, Bool.false_eq_true, forall_const, Bool.not_true, Bool.not_false, List.length_cons, List.length_nil, eqv_str, eqv_int, ok_int, ok_bl, ok_non, forall_eq, atI_0, atI_1, atI_2, atI_3, List.getElem?_cons_zero, List.getElem?_cons_succ, List.getElem?_nil, Option.some.injEq, Sk.own.injEq, len_tup, len_lst, its_tup, its_lst, itemsOf_tup, itemsOf_lst, itemsOf_str, isS_str, isT_tup, isL_lst, isI_int, isB_bl, builtin_str, builtin_tup, builtin_lst, builtin_int, builtin_bl, builtin_non, D.sign_one, List.all_cons, List.all_nil, Bool.and_true])

theorem c_law_pen (X : Defs K mg a_QUOTING a_BadBody i_BadBody) (T : Txt K mg a_QUOTING a_BadBody i_BadBody) : Cal P w K mg base "_law_pen" 1 ["script"] [] (SpPen K) := by
  refine cal_raw (N := N_law_pen) X.d_law_pen sc_law_pen (fun vs H Q E h => ?_) (fun f cdv A outer s H vs Q E hr ng h => ?_)
  · obtain ⟨a, ns, rfl, _⟩ := h; rfl
  · obtain ⟨a, ns, rfl, hs, hl, q⟩ := h
    exact ⟨tPenMake K, (pss_cons (ps_set (i := 1) sc_law_pen.nd rfl (Or.inl rfl) pe_int)
 (pss_cons (ps_for PassesOwn.never rfl (pi_seqk (K := K) (pv 0)) (pg_name (i := 2) sc_law_pen.nd rfl (Or.inl rfl)) (pss_one (ps_set (i := 1) sc_law_pen.nd rfl (Or.inl rfl) (pe_op op_mod (pe_callTy call_int1 (by rfl) T.b_int (by decide +kernel) (pa_cons (pe_op (op_addUk (K := K)) (pe_op (op_mulUk (K := K)) (pv 1) pe_int) (pv 2)) pa_nil)) pe_int))))
 (pss_one (ps_ret (pe_disp (pps_cons pe_str (pe_callTy (call_list_ofk (K := K)) (by rfl) T.b_list (by decide +kernel) (pa_cons (pv 0) pa_nil)) (pps_cons pe_str pe_int (pps_cons pe_str pe_int (pps_cons pe_str pe_int (pps_cons pe_str (pv 1) pps_nil))))) (by rfl) (by rfl) (fun z => by cases z) (by decide)))))), penMake_ok hs q⟩
def u_law_20 (T : Txt K mg a_QUOTING a_BadBody i_BadBody) : WS K L2.E0 := (WS.ifS (WT.tst (WE.op O2.neS (WE.tup (WA.cons (WE.callX pre_words_of post_words_of (exc_words_of a_QUOTING a_BadBody i_BadBody) (WA.cons (WE.var 3) WA.nil)) (WA.cons (WE.callX pre_quotes_of post_quotes_of (exc_quotes_of a_QUOTING a_BadBody i_BadBody) (WA.cons (WE.var 3) WA.nil)) (WA.cons (WE.callX pre_copies_of post_copies_of (exc_copies_of a_QUOTING a_BadBody i_BadBody) (WA.cons (WE.var 3) WA.nil)) WA.nil)))) (WE.tup (WA.cons (WE.var 6) (WA.cons (WE.cb ON.tuple (WA.cons (WE.var 7) WA.nil)) (WA.cons (WE.cb ON.tuple (WA.cons (WE.var 8) WA.nil)) WA.nil))))))
 (WS.ret (WM.up (WE.bl false)))
 WS.next)
def u_law_19 (T : Txt K mg a_QUOTING a_BadBody i_BadBody) : WS K L2.E0 := (WS.seq (WS.asg 8 (WM.up (WE.cb ON.sortedE (WA.cons (WE.lc (WI.enumU (WA.cons (WE.var 3) WA.nil)) (WG.tup (WGs.cons (WG.name 11) (WGs.cons (WG.name 10) WGs.nil))) (WT.and (WT.tst (WE.op O2.eq (WE.op O2.ix (WE.var 10) (WE.int 0)) (WE.str "copy"))) (WT.tst (WE.op O2.ninE (WE.var 10) (WE.sl (WE.var 3) WO.none (WO.some (WE.var 11)))))) (WE.sl (WE.var 10) (WO.some (WE.int 1)) WO.none) 999999) WA.nil))))
 (u_law_20 T))
def u_law_18 (T : Txt K mg a_QUOTING a_BadBody i_BadBody) : WS K L2.E0 := (WS.seq (WS.asg 7 (WM.up (WE.cb ON.sortedE (WA.cons (WE.lc (WI.enumU (WA.cons (WE.var 3) WA.nil)) (WG.tup (WGs.cons (WG.name 11) (WGs.cons (WG.name 10) WGs.nil))) (WT.and (WT.tst (WE.op O2.eq (WE.op O2.ix (WE.var 10) (WE.int 0)) (WE.str "see"))) (WT.tst (WE.op O2.ninE (WE.var 10) (WE.sl (WE.var 3) WO.none (WO.some (WE.var 11)))))) (WE.sl (WE.var 10) (WO.some (WE.int 1)) WO.none) 999999) WA.nil))))
 (u_law_19 T))
def u_law_17 (T : Txt K mg a_QUOTING a_BadBody i_BadBody) : WS K L2.E0 := (WS.seq (WS.asg 6 (WM.up (WE.cb ON.tuple (WA.cons (WE.lc (WI.seq (WE.var 3)) (WG.name 10) (WT.tst (WE.op O2.eq (WE.op O2.ix (WE.var 10) (WE.int 0)) (WE.str "word"))) (WE.op O2.ix (WE.var 10) (WE.int 1)) 999999) WA.nil))))
 (u_law_18 T))
def u_law_16 (T : Txt K mg a_QUOTING a_BadBody i_BadBody) : WS K L2.E0 := (WS.ifS (WT.b (WE.var 4))
 (u_law_17 T)
 WS.next)
def u_law_14 (T : Txt K mg a_QUOTING a_BadBody i_BadBody) : WS K L2.E0 := (WS.seq (WS.ifS (WT.tst (WE.op O2.neS (WE.lam (tS_law_why_body T) 1 231 "law.<locals>.<lambda>" (fun E => (WE.callX pre_copies_of post_copies_of (exc_copies_of a_QUOTING a_BadBody i_BadBody) (WA.cons (WE.var 3) WA.nil))) ⟨_, List.mem_singleton.mpr rfl, rfl⟩ (fun _ => rfl)) (WE.var 5)))
 (WS.ret (WM.up (WE.bl false)))
 WS.next)
 (u_law_16 T))
def u_law_12 (T : Txt K mg a_QUOTING a_BadBody i_BadBody) : WS K L2.E0 := (WS.seq (WS.ifS (WT.tst (WE.op O2.neS (WE.lam (tS_law_why_body T) 1 231 "law.<locals>.<lambda>" (fun E => (WE.callX pre_quotes_of post_quotes_of (exc_quotes_of a_QUOTING a_BadBody i_BadBody) (WA.cons (WE.var 3) WA.nil))) ⟨_, List.mem_singleton.mpr rfl, rfl⟩ (fun _ => rfl)) (WE.var 5)))
 (WS.ret (WM.up (WE.bl false)))
 WS.next)
 (u_law_14 T))
def u_law_10 (T : Txt K mg a_QUOTING a_BadBody i_BadBody) : WS K L2.E0 := (WS.seq (WS.ifS (WT.tst (WE.op O2.neS (WE.lam (tS_law_why_body T) 1 231 "law.<locals>.<lambda>" (fun E => (WE.callX pre_words_of post_words_of (exc_words_of a_QUOTING a_BadBody i_BadBody) (WA.cons (WE.var 3) WA.nil))) ⟨_, List.mem_singleton.mpr rfl, rfl⟩ (fun _ => rfl)) (WE.var 5)))
 (WS.ret (WM.up (WE.bl false)))
 WS.next)
 (u_law_12 T))
def u_law_8 (T : Txt K mg a_QUOTING a_BadBody i_BadBody) : WS K L2.E0 := (WS.seq (WS.ifS (WT.b (WE.isi "list" (WE.var 3)))
 WS.cont
 WS.next)
 (u_law_10 T))
def u_law_7 (T : Txt K mg a_QUOTING a_BadBody i_BadBody) : WS K L2.E0 := (WS.seq (WS.asg 5 (WM.up (WE.ite (WT.b (WE.var 4)) WE.non (WE.lst (WA.cons (WE.str "body") (WA.cons (WE.var 3) WA.nil))))))
 (u_law_8 T))
def u_law_5 (T : Txt K mg a_QUOTING a_BadBody i_BadBody) : WS K L2.E0 := (WS.seq (WS.ifS (WT.not (WT.b (WE.call pre_law_says post_law_says (WA.cons (WE.call pre_is_body post_is_body (WA.cons (WE.var 3) WA.nil)) (WA.cons (WE.var 4) WA.nil)))))
 (WS.ret (WM.up (WE.bl false)))
 WS.next)
 (u_law_7 T))
def u_law_4 (T : Txt K mg a_QUOTING a_BadBody i_BadBody) : WS K L2.E0 := (WS.seq (WS.asg 4 (WM.up (WE.call pre_law_is_right_body post_law_is_right_body (WA.cons (WE.var 3) WA.nil))))
 (u_law_5 T))
def u_law_3 (T : Txt K mg a_QUOTING a_BadBody i_BadBody) : WS K L2.E0 := (WS.seq (WS.asg 3 (WM.up (WE.callG m_law_made_body pre_law_made_body post_law_made_body 1 WA.nil)))
 (u_law_4 T))
def u_law_23 (T : Txt K mg a_QUOTING a_BadBody i_BadBody) : WS K L2.E0 := (WS.ret (WM.up (WE.op O2.eq (WE.tup (WA.cons (WE.callX pre_quotes_of post_quotes_of (exc_quotes_of a_QUOTING a_BadBody i_BadBody) (WA.cons (WE.var 9) WA.nil)) (WA.cons (WE.callX pre_copies_of post_copies_of (exc_copies_of a_QUOTING a_BadBody i_BadBody) (WA.cons (WE.var 9) WA.nil)) (WA.cons (WE.callX pre_words_of post_words_of (exc_words_of a_QUOTING a_BadBody i_BadBody) (WA.cons (WE.var 9) WA.nil)) WA.nil)))) (WE.tup (WA.cons (WE.tup (WA.cons (WE.tup (WA.cons (WE.str "a") (WA.cons (WE.str "c") WA.nil))) (WA.cons (WE.tup (WA.cons (WE.str "b") (WA.cons (WE.str "c") WA.nil))) WA.nil))) (WA.cons (WE.tup (WA.cons (WE.tup (WA.cons (WE.str "b") (WA.cons (WE.str "c") (WA.cons (WE.int 9) WA.nil)))) (WA.cons (WE.tup (WA.cons (WE.str "b") (WA.cons (WE.str "c") (WA.cons (WE.int 10) WA.nil)))) WA.nil))) (WA.cons (WE.tup (WA.cons (WE.str "see1") WA.nil)) WA.nil)))))))
def u_law_22 (T : Txt K mg a_QUOTING a_BadBody i_BadBody) : WS K L2.E0 := (WS.seq (WS.asg 9 (WM.up (WE.tup (WA.cons (WE.tup (WA.cons (WE.str "see") (WA.cons (WE.str "b") (WA.cons (WE.str "c") WA.nil)))) (WA.cons (WE.tup (WA.cons (WE.str "copy") (WA.cons (WE.str "b") (WA.cons (WE.str "c") (WA.cons (WE.int 10) WA.nil))))) (WA.cons (WE.tup (WA.cons (WE.str "see") (WA.cons (WE.str "a") (WA.cons (WE.str "c") WA.nil)))) (WA.cons (WE.tup (WA.cons (WE.str "word") (WA.cons (WE.str "see1") WA.nil))) (WA.cons (WE.tup (WA.cons (WE.str "see") (WA.cons (WE.str "b") (WA.cons (WE.str "c") WA.nil)))) (WA.cons (WE.tup (WA.cons (WE.str "copy") (WA.cons (WE.str "b") (WA.cons (WE.str "c") (WA.cons (WE.int 9) WA.nil))))) (WA.cons (WE.tup (WA.cons (WE.str "copy") (WA.cons (WE.str "b") (WA.cons (WE.str "c") (WA.cons (WE.int 10) WA.nil))))) WA.nil))))))))))
 (u_law_23 T))
def u_law (T : Txt K mg a_QUOTING a_BadBody i_BadBody) : WS K L2.E0 := (WS.seq (WS.forS (WI.rng1 (WA.cons (WE.int 6) WA.nil)) (WG.name 2)
 (u_law_3 T) 64)
 (u_law_22 T))
theorem cost_law (T : Txt K mg a_QUOTING a_BadBody i_BadBody) : (u_law T).m ≤ LIM := by
  have e4 : (u_law_4 T).m = 0 := by kernel_rfl
  have e3 : (u_law_3 T).m = (0 + 557324) + (u_law_4 T).m := rfl
  have e22 : (u_law_22 T).m = 0 := by kernel_rfl
  have eL : (u_law T).m = (0 + 64 * (u_law_3 T).m) + (u_law_22 T).m := rfl
  rw [eL, e3, e4, e22]
  decide
def LG (G : List Sk) : Prop := ∃ s2 s3 s4 s5 s6 s7 s8 s9 s10 s11, G = [.un, .pen, s2, s3, s4, s5, s6, s7, s8, s9, s10, s11]
def LW (T : Txt K mg a_QUOTING a_BadBody i_BadBody) : Wh := { N := LG, R := fun r => r = D.bl true, B := fun G => (u_law_22 T).w noX G (retW fun r => r = D.bl true), C := LG }
theorem lg {s2 s3 s4 s5 s6 s7 s8 s9 s10 s11 : Sk} : LG [.un, .pen, s2, s3, s4, s5, s6, s7, s8, s9, s10, s11] := ⟨_, _, _, _, _, _, _, _, _, _, rfl⟩
theorem why_w {v : D} {b : Bool} {post : D → Prop} {φ : D → Prop} (T : Txt K mg a_QUOTING a_BadBody i_BadBody) (h1 : b = true → φ .non) (h2 : b = false → φ (.lst [.str "body", v])) :
    (tS_law_why_body T).w (fun χ1 φ1 => BVb v ∧ (∀ d, (b = true ∧ post d) → φ1 d) ∧ ∀ (C : Addr) (fs : List (Str × D)), (b = false ∧ C = a_BadBody ∧ fs = [(("body" : Str), v)]) → χ1 C fs) φ ↔ BVb v := by
  unfold tS_law_why_body
  rw [w_toldA]
  refine ⟨fun h => h.1, fun h => ⟨h, fun d h => ⟨h1 h.1, by decide⟩, ?_⟩⟩
  rintro C fs ⟨hb, rfl, rfl⟩
  rw [chW_cons]
  refine ⟨true, T.x_BadBody.self, fun _ x dx => ?_, fun z => by cases z⟩
  walk_at "w"
  exact ⟨dx, _, _, rfl, rfl, v, rfl, by decide, _, rfl, h2 hb⟩
theorem enum_len (ds : List D) : (enumD ds).length = ds.length := by simp [enumD]
theorem enum_mem {x : D} {ds : List D} (h : x ∈ enumD ds) : ∃ (i : Nat) (y : D), ds[i]? = some y ∧ x = .tup [.int i, y] := by
  obtain ⟨i, h⟩ := List.getElem?_of_mem h
  obtain ⟨y, h1, h2⟩ := enumD_get h
  exact ⟨i, y, h1, h2⟩
theorem l18c {q y d4 : D} {ds : List D} {s5 s6 s7 s8 s9 : Sk} {i : Nat} (w : Str) (hw : w ∈ [("word" : Str), "see", "copy"]) (hg : ∀ x ∈ ds, GV x) (hr : ∀ x ∈ ds, pieceB x = true) (hy : y ∈ ds) :
    (WT.and (WT.tst (WE.op O2.eq (WE.op O2.ix (WE.var 10) (WE.int 0)) (WE.str w))) (WT.tst (WE.op O2.ninE (WE.var 10) (WE.sl (WE.var 3) WO.none (WO.some (WE.var 11))))) : WT K L2.E0).w noX
      [.un, .pen, .dat q, .dat (.tup ds), .dat d4, s5, s6, s7, s8, s9, .dat y, .dat (.int i)] (· = bE (headIs w) ds (.tup [.int (i : Int), y])) := by
  have hs : ∀ ds : List D, (D.tup ds).seq = true := fun _ => rfl
  have hc : DL.cutD ds none (some (i : Int)) = ds.take i := cutD_to
  have h1 := take_ok i hg hr
  have h2 := (piece_ge (hg y hy) (hr y hy)).1.ok
  have e1 : bE (headIs w) ds (.tup [.int (i : Int), y]) = (headIs w y && !anyE y (ds.take i)) := by
    show (headIs w y && !anyE y (ds.take ((i : Int)).toNat)) = _
    rw [Int.toNat_natCast]
  walk_at "w"
  rw [e1]
  rcases piece_view (hr y hy) with ⟨z, rfl⟩ | ⟨a, b, rfl⟩ | ⟨a, b, n, rfl⟩ <;> (walk_at "w"; refine ⟨ok_w _ (by simp), ok_w _ hw, fun z => ⟨hs _, .inr ⟨h2, by rw [hc]; exact h1, ?_⟩⟩, fun z => ?_⟩ <;> simp_all [headIs])
theorem ne_self {w : D} {P Q : Prop} (h : (w.ok = true) ∨ ∃ ds, w = .lst ds ∧ D.dups ds = true ∧ PyData.depthAll (D.pys ds) ≤ 60) (hq : Q) :
    (w.ok = true ∧ w.ok = true ∧ ((!w.eqv w) = true → P) ∧ ((!w.eqv w) = false → Q)) ∨ ∃ ds, w = .lst ds ∧ w = .lst ds ∧ D.dups ds = true ∧ PyData.depthAll (D.pys ds) ≤ 60 ∧ Q := by
  rcases h with h | ⟨ds, e, h1, h2⟩
  · exact .inl ⟨h, h, (fun z => by rw [ok_self h] at z; cases z), fun _ => hq⟩
  · exact .inr ⟨ds, e, e, h1, h2, hq⟩
theorem l17 {q : D} {ds : List D} {s5 s6 s7 s8 s9 s10 s11 : Sk} (T : Txt K mg a_QUOTING a_BadBody i_BadBody) (hv : MB (.tup ds)) (hb : bodyB (.tup ds) = true) : (u_law_17 T).w noX [.un, .pen, .dat q, .dat (.tup ds), .dat (.bl true), s5, s6, s7, s8, s9, s10, s11] (LW T) := by
  obtain ⟨_, e, hl, hr⟩ := body_view hb
  cases e
  have hg := body_gv hv hr
  unfold u_law_17
  walk_at "w"
  refine LcP.filt (headIs "word") secD (by omega) (fun x hx => ⟨_, rfl, ?_, fun hy => ?_⟩) ⟨_, rfl, ?_⟩
  · rcases piece_view (hr x hx) with ⟨z, rfl⟩ | ⟨a, b, rfl⟩ | ⟨a, b, n, rfl⟩ <;> (walk_at "w"; exact ⟨ok_w _ (by simp), ok_w _ (by simp), by simp [headIs]⟩)
  · rcases piece_view (hr x hx) with ⟨z, rfl⟩ | ⟨a, b, rfl⟩ | ⟨a, b, n, rfl⟩ <;> (walk_at "w"; rfl)
  unfold u_law_18
  walk_at "w"
  have hsl : ∀ n : Int, (D.tup ds).seq = true := fun _ => rfl
  refine ⟨ds, .inr rfl, LcP.filt (bE (headIs "see") ds) (fE restD) (by rw [enum_len]; omega) (fun x hx => ?_) ?_⟩
  · obtain ⟨i, y, hi, rfl⟩ := enum_mem hx
    have hy := List.mem_of_getElem? hi
    refine ⟨_, rfl, ?_, fun z => ?_⟩
    · exact l18c "see" (by simp) hg hr hy
    · walk_at "w"
      rcases piece_view (hr y hy) with ⟨z, rfl⟩ | ⟨a, b, rfl⟩ | ⟨a, b, n, rfl⟩ <;> exact ⟨rfl, rfl⟩
  rw [firsts_enum, firsts_rest _ (.inl rfl) _ hr]
  have us := uni_sees (sees_shape hr)
  refine ⟨_, rfl, fun _ => ⟨us.1.elim fun b h => ⟨b, fun k hk => h k (firsts_sub _ _ hr k hk)⟩, fun k hk j hj => us.2 k (firsts_sub _ _ hr k hk) j (firsts_sub _ _ hr j hj)⟩, ?_⟩
  rw [firsts_keys _ _ hr]
  unfold u_law_19
  walk_at "w"
  refine ⟨ds, .inr rfl, LcP.filt (bE (headIs "copy") ds) (fE restD) (by rw [enum_len]; omega) (fun x hx => ?_) ?_⟩
  · obtain ⟨i, y, hi, rfl⟩ := enum_mem hx
    have hy := List.mem_of_getElem? hi
    refine ⟨_, rfl, ?_, fun z => ?_⟩
    · exact l18c "copy" (by simp) hg hr hy
    · walk_at "w"
      rcases piece_view (hr y hy) with ⟨z, rfl⟩ | ⟨a, b, rfl⟩ | ⟨a, b, n, rfl⟩ <;> exact ⟨rfl, rfl⟩
  rw [firsts_enum, firsts_rest _ (.inr rfl) _ hr]
  have us := uni_cops (cops_shape hr)
  refine ⟨_, rfl, fun _ => ⟨us.1.elim fun b h => ⟨b, fun k hk => h k (firsts_sub _ _ hr k hk)⟩, fun k hk j hj => us.2 k (firsts_sub _ _ hr k hk) j (firsts_sub _ _ hr j hj)⟩, ?_⟩
  rw [firsts_keys _ _ hr]
  unfold u_law_20
  walk_at "w"
  simp only [pre_words_of, post_words_of, exc_words_of, pre_quotes_of, post_quotes_of, exc_quotes_of, pre_copies_of, post_copies_of, exc_copies_of]
  have ex : ∀ (C : Addr) (fs : List (Str × D)), bodyB (.tup ds) = false ∧ C = a_BadBody ∧ fs = [(("body" : Str), .tup ds)] → noX C fs := fun C fs h => by rw [hb] at h; cases h.1
  have ok := all_ge hg hr
  refine ⟨hv.bv, ?_, ex⟩
  rintro d ⟨_, rfl⟩
  refine ⟨hv.bv, ?_, ex⟩
  rintro d ⟨_, rfl⟩
  refine ⟨hv.bv, ?_, ex⟩
  rintro d ⟨_, rfl⟩
  refine ⟨by decide, by decide, ?_⟩
  exact ne_self (.inl ok) lg
def twD : D := .tup [.tup [.str "see", .str "b", .str "c"], .tup [.str "copy", .str "b", .str "c", .int 10], .tup [.str "see", .str "a", .str "c"], .tup [.str "word", .str "see1"], .tup [.str "see", .str "b", .str "c"], .tup [.str "copy", .str "b", .str "c", .int 9], .tup [.str "copy", .str "b", .str "c", .int 10]]
theorem tw_body : bodyB twD = true := by decide +kernel
theorem tw_gv : BVb twD := .inl (.inl (gdb_of (by decide +kernel)))
theorem tw_words : wordsD twD = .tup [.str "see1"] := by kernel_rfl
theorem tw_sees : quotesD twD = .tup [.tup [.str "a", .str "c"], .tup [.str "b", .str "c"]] := by
  have e : quotesD twD = .tup ((ascT [[.inr "b", .inr "c"], [.inr "a", .inr "c"], [.inr "b", .inr "c"]]).map tupD) := by kernel_rfl
  rw [e, ← ascT_eq (ys := [[.inr "a", .inr "c"], [.inr "b", .inr "c"]])]
  · rfl
  · intro k; simp only [List.mem_cons, List.not_mem_nil, or_false]
    constructor
    · rintro (h | h)
      · exact .inr (.inl h)
      · exact .inl h
    · rintro (h | h | h)
      · exact .inr h
      · exact .inl h
      · exact .inr h
  · exact .cons (fun j hj => by rw [List.mem_singleton.mp hj]; decide +kernel) (.cons (fun j hj => nomatch hj) .nil)
theorem tw_copies : copiesD twD = .tup [.tup [.str "b", .str "c", .int 9], .tup [.str "b", .str "c", .int 10]] := by
  have e : copiesD twD = .tup ((ascT [[.inr "b", .inr "c", .inl 10], [.inr "b", .inr "c", .inl 9], [.inr "b", .inr "c", .inl 10]]).map tupD) := by kernel_rfl
  rw [e, ← ascT_eq (ys := [[.inr "b", .inr "c", .inl 9], [.inr "b", .inr "c", .inl 10]])]
  · rfl
  · intro k; simp only [List.mem_cons, List.not_mem_nil, or_false]
    constructor
    · rintro (h | h)
      · exact .inr (.inl h)
      · exact .inl h
    · rintro (h | h | h)
      · exact .inr h
      · exact .inl h
      · exact .inr h
  · exact .cons (fun j hj => by rw [List.mem_singleton.mp hj]; decide +kernel) (.cons (fun j hj => nomatch hj) .nil)
theorem l23 {s2 s3 s4 s5 s6 s7 s8 s10 s11 : Sk} (T : Txt K mg a_QUOTING a_BadBody i_BadBody) : (u_law_23 T).w noX [.un, .pen, s2, s3, s4, s5, s6, s7, s8, .dat twD, s10, s11] (retW fun r => r = D.bl true) := by
  unfold u_law_23
  walk_at "w"
  simp only [pre_words_of, post_words_of, exc_words_of, pre_quotes_of, post_quotes_of, exc_quotes_of, pre_copies_of, post_copies_of, exc_copies_of]
  have ex : ∀ (C : Addr) (fs : List (Str × D)), bodyB twD = false ∧ C = a_BadBody ∧ fs = [(("body" : Str), twD)] → noX C fs := fun C fs h => by rw [tw_body] at h; cases h.1
  refine ⟨tw_gv, ?_, ex⟩
  rintro d ⟨_, rfl⟩
  refine ⟨tw_gv, ?_, ex⟩
  rintro d ⟨_, rfl⟩
  refine ⟨tw_gv, ?_, ex⟩
  rintro d ⟨_, rfl⟩
  rw [tw_words, tw_sees, tw_copies]
  repeat ((with_reducible (refine And.intro ?_ ?_)); · first | decide | decide +kernel)
  rw [ok_self (by decide +kernel)]
theorem l22 {s2 s3 s4 s5 s6 s7 s8 s9 s10 s11 : Sk} (T : Txt K mg a_QUOTING a_BadBody i_BadBody) : (u_law_22 T).w noX [.un, .pen, s2, s3, s4, s5, s6, s7, s8, s9, s10, s11] (retW fun r => r = D.bl true) := by
  unfold u_law_22
  walk_at "w"
  exact ⟨by decide, by decide, by decide, by decide, by decide, by decide, by decide, by decide, l23 T⟩
theorem l10 {v q : D} {b : Bool} {w : D} {s6 s7 s8 s9 s10 s11 : Sk} {W : Wh} (T : Txt K mg a_QUOTING a_BadBody i_BadBody) (hv : MB v) (hb : bodyB v = b) (hw : w = if b then .non else .lst [.str "body", v])
    (k : (u_law_16 T).w noX [.un, .pen, .dat q, .dat v, .dat (.bl b), .dat w, s6, s7, s8, s9, s10, s11] W) :
    (u_law_10 T).w noX [.un, .pen, .dat q, .dat v, .dat (.bl b), .dat w, s6, s7, s8, s9, s10, s11] W := by
  have hw2 : (w.ok = true) ∨ ∃ ds, w = .lst ds ∧ D.dups ds = true ∧ PyData.depthAll (D.pys ds) ≤ 60 := by
    cases b with
    | true => exact .inl (by rw [hw]; rfl)
    | false =>
      refine .inr ⟨_, hw, ?_, ?_⟩
      · show (true && (v.dup && true)) = true
        rw [hv.dup]; rfl
      · have := hv.dep
        show max 0 (max v.py.depth 0) ≤ 60
        omega
  have h1 : ∀ {φ : D → Prop}, φ w → b = true → φ .non := fun h e => by rw [hw, e] at h; exact h
  have h2 : ∀ {φ : D → Prop}, φ w → b = false → φ (.lst [.str "body", v]) := fun h e => by rw [hw, e] at h; exact h
  have l14 : (u_law_14 T).w noX [.un, .pen, .dat q, .dat v, .dat (.bl b), .dat w, s6, s7, s8, s9, s10, s11] W := by
    unfold u_law_14
    walk_at "w"
    erw [DL.w_lam]
    walk_at "w"
    simp only [pre_copies_of, post_copies_of, exc_copies_of, hb]
    have n := ne_self (P := W.R (D.bl false)) hw2 k
    exact (why_w T (h1 n) (h2 n)).mpr hv.bv
  have l12 : (u_law_12 T).w noX [.un, .pen, .dat q, .dat v, .dat (.bl b), .dat w, s6, s7, s8, s9, s10, s11] W := by
    unfold u_law_12
    walk_at "w"
    erw [DL.w_lam]
    walk_at "w"
    simp only [pre_quotes_of, post_quotes_of, exc_quotes_of, hb]
    have n := ne_self (P := W.R (D.bl false)) hw2 l14
    exact (why_w T (h1 n) (h2 n)).mpr hv.bv
  unfold u_law_10
  walk_at "w"
  erw [DL.w_lam]
  walk_at "w"
  simp only [pre_words_of, post_words_of, exc_words_of, hb]
  have n := ne_self (P := W.R (D.bl false)) hw2 l12
  exact (why_w T (h1 n) (h2 n)).mpr hv.bv
theorem v_law (T : Txt K mg a_QUOTING a_BadBody i_BadBody) : (u_law T).w noX [.un, .pen, .un, .un, .un, .un, .un, .un, .un, .un, .un, .un] (retW fun r => r = .bl true) := by
  unfold u_law

  walk_at "w"
  refine ⟨6, rfl, by decide, ?_⟩
  refine ForP.of (fun j G => LG G) (by simp) lg ?_ ?_
  · rintro j q G hd ⟨s2, s3, s4, s5, s6, s7, s8, s9, s10, s11, rfl⟩
    refine ⟨_, rfl, ?_⟩
    show (u_law_3 T).w noX _ (LW T)
    generalize hW : LW T = W
    unfold u_law_3
    walk_at "w"
    simp only [pre_law_made_body, post_law_made_body]
    intro v hv
    unfold u_law_4
    walk_at "w"
    simp only [pre_law_is_right_body, post_law_is_right_body]
    refine ⟨hv.bv, ?_⟩
    unfold u_law_5
    walk_at "w"
    refine ⟨hv.bv, ⟨_, _, rfl, rfl⟩, ?_⟩
    rintro d ⟨a, b, e1, e2, rfl⟩
    cases e1; cases e2
    refine ⟨_, rfl, fun h => by simp at h, fun _ => ?_⟩
    unfold u_law_7
    walk_at "w"
    generalize hb : bodyB v = b
    cases b with
    | false =>
      simp only [Bool.false_eq_true, false_imp_iff, true_and, true_imp_iff]
      unfold u_law_8
      walk_at "w"
      refine ⟨by decide, hv.bv.bi, fun _ => by subst hW; exact lg, fun hl => ?_⟩
      refine l10 T hv hb (by simp) ?_
      unfold u_law_16
      walk_at "w"
      subst hW; exact lg
    | true =>
      simp only [Bool.true_eq_false, false_imp_iff, and_true, true_imp_iff]
      obtain ⟨ds, rfl, _⟩ := body_view hb
      unfold u_law_8
      walk_at "w"
      refine ⟨fun h => by simp at h, fun hl => ?_⟩
      refine l10 T hv hb (by simp) ?_
      unfold u_law_16
      walk_at "w"
      subst hW; exact l17 T hv hb
  · rintro G ⟨s2, s3, s4, s5, s6, s7, s8, s9, s10, s11, rfl⟩
    exact l22 T
abbrev k_law : Nat := 10
theorem c_law (X : Defs K mg a_QUOTING a_BadBody i_BadBody) (T : Txt K mg a_QUOTING a_BadBody i_BadBody) {f : Addr} {fd : FuncData} (F : FunC K "law" "law" s_law f fd (.ref 233)) (TB : LamX.TabB base mg 233 231) : FnG P w K mg base CX0 k_law f fd ["script"] (SpLawT K) := by
  have told_law_why_body := told_law_why_body (P := P) (w := w) (base := base) T
  have c_law_pen := c_law_pen (P := P) (w := w) (base := base) X T
  have c_law_made_body := c_law_made_body (P := P) (w := w) (base := base) X T
  have c_law_is_right_body := c_law_is_right_body (P := P) (w := w) (base := base) X T
  have c_law_says := c_law_says (P := P) (w := w) (base := base) X T
  have c_quotes_of := c_quotes_of (P := P) (w := w) (base := base) X T
  have c_copies_of := c_copies_of (P := P) (w := w) (base := base) X T
  have c_words_of := c_words_of (P := P) (w := w) (base := base) X T
  have c_is_body := c_is_body (P := P) (w := w) (base := base) X T
  refine fng_code (N := N_law) F sc_law (fun vs H Q E h => ?_) (fun A outer s H vs Q E hr ng h => ?_)
  · obtain ⟨a, ns, rfl, _⟩ := h; rfl
  · obtain ⟨a, ns, rfl, hs, hl, htab, q⟩ := h
    obtain ⟨t, ht, et⟩ : ∃ t, PSs (cxOf CX0 P w K mg base N_law "law" (defScope s_law) f (.ref 233) A outer s H E).nox (defBody s_law) t ∧ t = tSeq (tAsg (tCall (SpPen K) [] L2.E0 (tCons (tVar 0) tNil)) (gName 1)) (u_law T).t := ⟨_, (pss_cons (ps_set (i := 1) sc_law.nd rfl (Or.inl rfl) (peg_cal c_law_pen hr (by decide) ng rfl (pa_cons (pv 0) pa_nil)))
 (pss_cons (ps_for PassesOwn.never rfl (pi_range1 rfl T.b_range (pa_cons pe_int pa_nil)) (pg_name (i := 2) sc_law.nd rfl (Or.inl rfl)) (pss_cons (ps_set (i := 3) sc_law.nd rfl (Or.inr rfl) (peg_cal c_law_made_body hr (by decide) ng rfl (pa_cons (pv 1) pa_nil)))
 (pss_cons (ps_set (i := 4) sc_law.nd rfl (Or.inl rfl) (peg_cal c_law_is_right_body hr (by decide) ng rfl (pa_cons (pv 3) pa_nil)))
 (pss_cons (ps_if (pt_not (pt_val (peg_cal c_law_says hr (by decide) ng rfl (pa_cons (peg_cal c_is_body hr (by decide) ng rfl (pa_cons (pv 3) pa_nil)) (pa_cons (pv 4) pa_nil))))) (pss_one (ps_ret pe_bl)) pss_nil)
 (pss_cons (ps_set (i := 5) sc_law.nd rfl (Or.inl rfl) (pe_ifExp (pt_val (pv 4)) pe_non (pe_lst (pa_cons pe_str (pa_cons (pv 3) pa_nil)))))
 (pss_cons (ps_if (pt_val (pe_callB (call_isik (K := K)) (by rfl) T.b_isinstance (by decide +kernel) (pa_cons (pv 3) (pa_cons (pe_bltn (v := .ty "list") (by rfl) T.b_list (by decide +kernel) rfl) pa_nil)))) (pss_one ps_continue) pss_nil)
 (pss_cons (ps_if (pt_cmpR (op_neSk (K := K) (Room.units hr)) (pe_lamW (q := "law.<locals>.<lambda>") X.d_law_why_body sc_law_why_body rfl (Or.inl rfl) told_law_why_body rfl hr ng TB rfl rfl (List.mem_singleton.mpr rfl) (fun z hz _ => by first | (rw [List.mem_singleton.mp hz]; done) | (rw [List.mem_singleton.mp hz]; rfl)) (LamX.lamS_by (sc := defScope s_law) (by decide +kernel)) rfl (fun _ _ _ _ _ => rfl) (fun A outer s H E f c' hr ng => (peg_calX c_words_of hr (by decide) ng rfl (takes_of rfl rfl rfl rfl) (pa_cons (pv 3) pa_nil)))) (pv 5) (nomark _)) (pss_one (ps_ret pe_bl)) pss_nil)
 (pss_cons (ps_if (pt_cmpR (op_neSk (K := K) (Room.units hr)) (pe_lamW (q := "law.<locals>.<lambda>") X.d_law_why_body sc_law_why_body rfl (Or.inl rfl) told_law_why_body rfl hr ng TB rfl rfl (List.mem_singleton.mpr rfl) (fun z hz _ => by first | (rw [List.mem_singleton.mp hz]; done) | (rw [List.mem_singleton.mp hz]; rfl)) (LamX.lamS_by (sc := defScope s_law) (by decide +kernel)) rfl (fun _ _ _ _ _ => rfl) (fun A outer s H E f c' hr ng => (peg_calX c_quotes_of hr (by decide) ng rfl (takes_of rfl rfl rfl rfl) (pa_cons (pv 3) pa_nil)))) (pv 5) (nomark _)) (pss_one (ps_ret pe_bl)) pss_nil)
 (pss_cons (ps_if (pt_cmpR (op_neSk (K := K) (Room.units hr)) (pe_lamW (q := "law.<locals>.<lambda>") X.d_law_why_body sc_law_why_body rfl (Or.inl rfl) told_law_why_body rfl hr ng TB rfl rfl (List.mem_singleton.mpr rfl) (fun z hz _ => by first | (rw [List.mem_singleton.mp hz]; done) | (rw [List.mem_singleton.mp hz]; rfl)) (LamX.lamS_by (sc := defScope s_law) (by decide +kernel)) rfl (fun _ _ _ _ _ => rfl) (fun A outer s H E f c' hr ng => (peg_calX c_copies_of hr (by decide) ng rfl (takes_of rfl rfl rfl rfl) (pa_cons (pv 3) pa_nil)))) (pv 5) (nomark _)) (pss_one (ps_ret pe_bl)) pss_nil)
 (pss_one (ps_if (pt_val (pv 4)) (pss_cons (ps_set (i := 6) sc_law.nd rfl (Or.inl rfl) (pe_callTy (call_tuple_ofk (K := K)) (by rfl) T.b_tuple (by decide +kernel) (pa_cons (pe_lc (own := [("piece", 10)]) (g := (gName 10)) (by rfl) sc_law.nd (pi_seqk (K := K) (pv 3)) (blkOk_by (own := [("piece", 10)]) (N := N_law) (sc := defScope s_law) (by decide +kernel)) (fun _ _ _ _ _ => (pg_name (i := 10) sc_law.nd rfl (Or.inl rfl))) (fun _ _ _ _ _ => (pts_one (pt_cmpR (op_eqDk (K := K) (Room.units hr)) (pe_ix (ix_seqk (K := K)) (pv 10) pe_int (fun _ _ => rfl)) pe_str (nomark _)))) (fun _ _ _ _ _ => (pe_ix (ix_seqk (K := K)) (pv 10) pe_int (fun _ _ => rfl)))) pa_nil)))
 (pss_cons (ps_set (i := 7) sc_law.nd rfl (Or.inl rfl) (pe_callB (cr_sortedEk (K := K)) (by rfl) T.b_sorted (by decide +kernel) (pa_cons (pe_lc (own := [("at", 11), ("piece", 10)]) (g := (gTup K 2 (gCons (gName 11) (gCons (gName 10) gNil)))) (by rfl) sc_law.nd (pi_enumUk (K := K) (by rfl) T.b_enumerate (pa_cons (pv 3) pa_nil)) (blkOk_by (own := [("at", 11), ("piece", 10)]) (N := N_law) (sc := defScope s_law) (by decide +kernel)) (fun _ _ _ _ _ => (pg_tupk (K := K) rfl (pgs_cons (pg_name (i := 11) sc_law.nd rfl (Or.inl rfl)) (pgs_cons (pg_name (i := 10) sc_law.nd rfl (Or.inl rfl)) pgs_nil)))) (fun _ _ _ _ _ => (pts_one (PW.pt (pw_and (pt_cmpR (op_eqDk (K := K) (Room.units hr)) (pe_ix (ix_seqk (K := K)) (pv 10) pe_int (fun _ _ => rfl)) pe_str (nomark _)) (pw_and1 (pt_cmpR (op_ninEk (K := K) (un66 hr)) (pv 10) (pe_slice (sl_Uk (K := K)) (pv 3) po_none (po_some (pv 11))) (by rfl))))))) (fun _ _ _ _ _ => (pe_slice (sl_Uk (K := K)) (pv 10) (po_some pe_int) po_none))) pa_nil)))
 (pss_cons (ps_set (i := 8) sc_law.nd rfl (Or.inl rfl) (pe_callB (cr_sortedEk (K := K)) (by rfl) T.b_sorted (by decide +kernel) (pa_cons (pe_lc (own := [("at", 11), ("piece", 10)]) (g := (gTup K 2 (gCons (gName 11) (gCons (gName 10) gNil)))) (by rfl) sc_law.nd (pi_enumUk (K := K) (by rfl) T.b_enumerate (pa_cons (pv 3) pa_nil)) (blkOk_by (own := [("at", 11), ("piece", 10)]) (N := N_law) (sc := defScope s_law) (by decide +kernel)) (fun _ _ _ _ _ => (pg_tupk (K := K) rfl (pgs_cons (pg_name (i := 11) sc_law.nd rfl (Or.inl rfl)) (pgs_cons (pg_name (i := 10) sc_law.nd rfl (Or.inl rfl)) pgs_nil)))) (fun _ _ _ _ _ => (pts_one (PW.pt (pw_and (pt_cmpR (op_eqDk (K := K) (Room.units hr)) (pe_ix (ix_seqk (K := K)) (pv 10) pe_int (fun _ _ => rfl)) pe_str (nomark _)) (pw_and1 (pt_cmpR (op_ninEk (K := K) (un66 hr)) (pv 10) (pe_slice (sl_Uk (K := K)) (pv 3) po_none (po_some (pv 11))) (by rfl))))))) (fun _ _ _ _ _ => (pe_slice (sl_Uk (K := K)) (pv 10) (po_some pe_int) po_none))) pa_nil)))
 (pss_one (ps_if (pt_cmpR (op_neSk (K := K) (Room.units hr)) (pe_tup (pa_cons (peg_calX c_words_of hr (by decide) ng rfl (show Takes _ (fun cls d _ H => L2.E0 cls d H) from takes0) (pa_cons (pv 3) pa_nil)) (pa_cons (peg_calX c_quotes_of hr (by decide) ng rfl (show Takes _ (fun cls d _ H => L2.E0 cls d H) from takes0) (pa_cons (pv 3) pa_nil)) (pa_cons (peg_calX c_copies_of hr (by decide) ng rfl (show Takes _ (fun cls d _ H => L2.E0 cls d H) from takes0) (pa_cons (pv 3) pa_nil)) pa_nil)))) (pe_tup (pa_cons (pv 6) (pa_cons (pe_callTy (call_tuple_ofk (K := K)) (by rfl) T.b_tuple (by decide +kernel) (pa_cons (pv 7) pa_nil)) (pa_cons (pe_callTy (call_tuple_ofk (K := K)) (by rfl) T.b_tuple (by decide +kernel) (pa_cons (pv 8) pa_nil)) pa_nil)))) (nomark _)) (pss_one (ps_ret pe_bl)) pss_nil))))) pss_nil)))))))))))
 (pss_cons (ps_set (i := 9) sc_law.nd rfl (Or.inl rfl) (pe_tup (pa_cons (pe_tup (pa_cons pe_str (pa_cons pe_str (pa_cons pe_str pa_nil)))) (pa_cons (pe_tup (pa_cons pe_str (pa_cons pe_str (pa_cons pe_str (pa_cons pe_int pa_nil))))) (pa_cons (pe_tup (pa_cons pe_str (pa_cons pe_str (pa_cons pe_str pa_nil)))) (pa_cons (pe_tup (pa_cons pe_str (pa_cons pe_str pa_nil))) (pa_cons (pe_tup (pa_cons pe_str (pa_cons pe_str (pa_cons pe_str pa_nil)))) (pa_cons (pe_tup (pa_cons pe_str (pa_cons pe_str (pa_cons pe_str (pa_cons pe_int pa_nil))))) (pa_cons (pe_tup (pa_cons pe_str (pa_cons pe_str (pa_cons pe_str (pa_cons pe_int pa_nil))))) pa_nil)))))))))
 (pss_one (ps_ret (pe_cmpR (op_eqDk (K := K) (Room.units hr)) (pe_tup (pa_cons (peg_calX c_quotes_of hr (by decide) ng rfl (show Takes _ (fun cls d _ H => L2.E0 cls d H) from takes0) (pa_cons (pv 9) pa_nil)) (pa_cons (peg_calX c_copies_of hr (by decide) ng rfl (show Takes _ (fun cls d _ H => L2.E0 cls d H) from takes0) (pa_cons (pv 9) pa_nil)) (pa_cons (peg_calX c_words_of hr (by decide) ng rfl (show Takes _ (fun cls d _ H => L2.E0 cls d H) from takes0) (pa_cons (pv 9) pa_nil)) pa_nil)))) (pe_tup (pa_cons (pe_tup (pa_cons (pe_tup (pa_cons pe_str (pa_cons pe_str pa_nil))) (pa_cons (pe_tup (pa_cons pe_str (pa_cons pe_str pa_nil))) pa_nil))) (pa_cons (pe_tup (pa_cons (pe_tup (pa_cons pe_str (pa_cons pe_str (pa_cons pe_int pa_nil)))) (pa_cons (pe_tup (pa_cons pe_str (pa_cons pe_str (pa_cons pe_int pa_nil)))) pa_nil))) (pa_cons (pe_tup (pa_cons pe_str pa_nil)) pa_nil)))) (nomark _))))))), rfl⟩
    subst et
    refine ⟨_, ht, ?_⟩
    exact law_start (n := 10) (m := (u_law T).m) rfl (cost_law T) hs hl htab (fun p c => (u_law T).ok (v_law T)) q
end
end K67
set_option maxRecDepth 100000
set_option maxHeartbeats 8000000
theorem K67.tabS_empty {H : L2.Hp} {P : PySem.Addr} {q : PySem.Str} (h : H P = some (.tbl #[])) : LamX.TabS H P q := ⟨#[], h, trivial, fun pos cv z => by cases z⟩
local macro_rules | `(tactic| walk_at "q_is") => `(tactic| (first | delta L2.KOf | skip); k_is)
open PySem PySem.W PyProof.Rows L2 DL K67 in
set_option maxRecDepth 100000 in
set_option maxHeartbeats 0 in
theorem PySem.Challenge.cw_lentvoices_k67_bodies_judged_holds : PySem.Challenge.rw_lentvoices_k67_bodies_judged.Holds := by
  w_on; o_law; k_head; (case hw => w_witness2)
  k_fill
  refine walk_ofTG (l := PySem.Challenge.rw_lentvoices_k67_bodies_judged) (n := 63) (k := k_law) (x := "script") (sp := fun K => SpLawT K) [(233, 231)] rfl (by decide) rfl ⟨rfl, by decide, by decide⟩ (fun w h Y => PySem.W.km_in_of Y) (fun w h Y p hp => by rw [List.mem_singleton.mp hp]; exact PySem.W.km_tabs_of Y 231 (List.mem_singleton.mpr rfl)) ?F (fun K H a ns hl ht hS => ⟨a, ns, rfl, hS, hl, fun p hp => by rw [List.mem_singleton.mp hp]; exact tabS_empty (ht (233, 231) (List.mem_singleton.mpr rfl)), fun _ => rfl⟩)
  case F =>
    intro w mg fa h KX G hmg
    refine ⟨fun p hp => by rw [List.mem_singleton.mp hp]; kernel_rfl, fun p hp => by rw [List.mem_singleton.mp hp]; exact PySem.W.codeHd_of_K KX (by kernel_rfl), ?_⟩
    have b_all : mg "all" = none := by refine' PySem.W.mg_none_of KX G ?a_2; (case a_2 => walk_at "q_is")
    have b_bool : mg "bool" = none := by refine' PySem.W.mg_none_of KX G ?a_3; (case a_3 => walk_at "q_is")
    have b_enumerate : mg "enumerate" = none := by refine' PySem.W.mg_none_of KX G ?a_4; (case a_4 => walk_at "q_is")
    have b_int : mg "int" = none := by refine' PySem.W.mg_none_of KX G ?a_5; (case a_5 => walk_at "q_is")
    have b_isinstance : mg "isinstance" = none := by refine' PySem.W.mg_none_of KX G ?a_6; (case a_6 => walk_at "q_is")
    have b_len : mg "len" = none := by refine' PySem.W.mg_none_of KX G ?a_7; (case a_7 => walk_at "q_is")
    have b_list : mg "list" = none := by refine' PySem.W.mg_none_of KX G ?a_8; (case a_8 => walk_at "q_is")
    have b_range : mg "range" = none := by refine' PySem.W.mg_none_of KX G ?a_9; (case a_9 => walk_at "q_is")
    have b_set : mg "set" = none := by refine' PySem.W.mg_none_of KX G ?a_10; (case a_10 => walk_at "q_is")
    have b_sorted : mg "sorted" = none := by refine' PySem.W.mg_none_of KX G ?a_11; (case a_11 => walk_at "q_is")
    have b_str : mg "str" = none := by refine' PySem.W.mg_none_of KX G ?a_12; (case a_12 => walk_at "q_is")
    have b_tuple : mg "tuple" = none := by refine' PySem.W.mg_none_of KX G ?a_13; (case a_13 => walk_at "q_is")
    have g_LETTERS : ∃ u, mg "LETTERS" = some u ∧ RelV (.str "abcdefghijklmnopqrstuvwxyz") u := by refine' glo_mk KX G ?a_14 ?r_14; (case a_14 => walk_at "q_is"); (case r_14 => first | exact rfl | exact ⟨_, rfl⟩)
    have g_FIGURES : ∃ u, mg "FIGURES" = some u ∧ RelV (.str "0123456789") u := by refine' glo_mk KX G ?a_15 ?r_15; (case a_15 => walk_at "q_is"); (case r_15 => first | exact rfl | exact ⟨_, rfl⟩)
    have g_LONGEST_WORD : ∃ u, mg "LONGEST_WORD" = some u ∧ RelV (.int 12) u := by refine' glo_mk KX G ?a_16 ?r_16; (case a_16 => walk_at "q_is"); (case r_16 => first | exact rfl | exact ⟨_, rfl⟩)
    obtain ⟨a_QUOTING, g_QUOTING, t_QUOTING⟩ : ∃ A, (∃ u, mg "QUOTING" = some u ∧ RelV (.ref A) u) ∧ ∀ H, SqT (KOf KX) H A [(.str "see"), (.str "copy")] := by
      refine' tup_mk KX G ?a_17 ?l_17 ?z_17 ?r_17; (case a_17 => walk_at "q_is"); (case l_17 => walk_at "q_is"); (case z_17 => decide +kernel)
      (case r_17 => repeat (first | exact .nil | refine .cons (by first | exact rfl | exact ⟨_, rfl⟩) ?_))
    have g_MOST_PIECES : ∃ u, mg "MOST_PIECES" = some u ∧ RelV (.int 20) u := by refine' glo_mk KX G ?a_18 ?r_18; (case a_18 => walk_at "q_is"); (case r_18 => first | exact rfl | exact ⟨_, rfl⟩)
    obtain ⟨a_BadBody, i_BadBody, x_BadBody, e_BadBody⟩ : ∃ C fI, OwnC (KOf KX) mg "BadBody" C fI ["body"] ∧ ∃ fd, Fun (KOf KX) "__init__" "BadBody.__init__" s_BadBody___init__ fI fd ∧ Binds (KOf KX) fd ["self", "body"] [] := by
      refine' own_mk KX G ?aC_19 ?xL_19 ?ve_19 ?sa_19 ?ga_19 ?gg_19 ?no_19 ?a1_19 ?t1_19 ?l_19 ?c_19 ?k_19 ?kC_19 ?eC_19 ?tC_19 ?hC_19 ?iC_19 ?sC_19 (fun _ _ _ _ _ _ us hl => match us, hl with | [_, _], _ => rfl)
      (case aC_19 => walk_at "q_is"); (case xL_19 => walk_at "q_is"); (case ve_19 => decide +kernel); (case sa_19 => walk_at "q_is"); (case ga_19 => walk_at "q_is"); (case gg_19 => walk_at "q_is")
      (case no_19 => intro f hf; simp only [List.mem_cons, List.not_mem_nil, or_false] at hf; subst hf; walk_at "q_is")
      (case a1_19 => walk_at "q_is"); (case t1_19 => walk_at "q_is"); (case l_19 => walk_at "q_is"); (case c_19 => walk_at "q_is"); (case k_19 => walk_at "q_is"); (case kC_19 => walk_at "q_is"); (case eC_19 => walk_at "q_is"); (case tC_19 => walk_at "q_is"); (case hC_19 => walk_at "q_is"); (case iC_19 => walk_at "q_is"); (case sC_19 => first | rfl | walk_at "q_is")
    have d_is_whole_1 : Def (KOf KX) mg "is_whole" s_is_whole ["value", "least", "most"] [.non] := by
      refine' def_mkD (dvs := [.non]) 2 0 KX G ?a_20 ?l_20 ?lT_20 ?c_20 ?k_20 ?oT_20 ?r_20 (by decide) (by decide) (fun _ _ _ _ _ _ _ us its h1 h2 => match us, its, h1, h2 with | [_, _], [_], _, _ => ⟨_, rfl, rfl⟩); (case a_20 => walk_at "q_is"); (case l_20 => walk_at "q_is"); (case lT_20 => walk_at "q_is"); (case c_20 => walk_at "q_is"); (case k_20 => walk_at "q_is")
      (case oT_20 => exact rfl); (case r_20 => repeat (first | exact .nil | refine .cons (by first | exact rfl | exact ⟨_, rfl⟩) ?_))
    have d_ascending : Def (KOf KX) mg "ascending" s_ascending ["names"] [] := by
      refine' def_mk KX G ?a_21 ?l_21 ?c_21 ?k_21 (fun _ _ _ _ _ _ us hl => match us, hl with | [_], _ => rfl); (case a_21 => walk_at "q_is"); (case l_21 => walk_at "q_is"); (case c_21 => walk_at "q_is"); (case k_21 => walk_at "q_is")
    have d_is_made_of : Def (KOf KX) mg "is_made_of" s_is_made_of ["value", "signs", "most"] [] := by
      refine' def_mk KX G ?a_22 ?l_22 ?c_22 ?k_22 (fun _ _ _ _ _ _ us hl => match us, hl with | [_, _, _], _ => rfl); (case a_22 => walk_at "q_is"); (case l_22 => walk_at "q_is"); (case c_22 => walk_at "q_is"); (case k_22 => walk_at "q_is")
    have d_is_name : Def (KOf KX) mg "is_name" s_is_name ["value"] [] := by
      refine' def_mk KX G ?a_23 ?l_23 ?c_23 ?k_23 (fun _ _ _ _ _ _ us hl => match us, hl with | [_], _ => rfl); (case a_23 => walk_at "q_is"); (case l_23 => walk_at "q_is"); (case c_23 => walk_at "q_is"); (case k_23 => walk_at "q_is")
    have d_is_word : Def (KOf KX) mg "is_word" s_is_word ["value"] [] := by
      refine' def_mk KX G ?a_24 ?l_24 ?c_24 ?k_24 (fun _ _ _ _ _ _ us hl => match us, hl with | [_], _ => rfl); (case a_24 => walk_at "q_is"); (case l_24 => walk_at "q_is"); (case c_24 => walk_at "q_is"); (case k_24 => walk_at "q_is")
    have d_is_quoted : Def (KOf KX) mg "is_quoted" s_is_quoted ["parts"] [] := by
      refine' def_mk KX G ?a_25 ?l_25 ?c_25 ?k_25 (fun _ _ _ _ _ _ us hl => match us, hl with | [_], _ => rfl); (case a_25 => walk_at "q_is"); (case l_25 => walk_at "q_is"); (case c_25 => walk_at "q_is"); (case k_25 => walk_at "q_is")
    have d_is_piece : Def (KOf KX) mg "is_piece" s_is_piece ["value"] [] := by
      refine' def_mk KX G ?a_26 ?l_26 ?c_26 ?k_26 (fun _ _ _ _ _ _ us hl => match us, hl with | [_], _ => rfl); (case a_26 => walk_at "q_is"); (case l_26 => walk_at "q_is"); (case c_26 => walk_at "q_is"); (case k_26 => walk_at "q_is")
    have d_is_body : Def (KOf KX) mg "is_body" s_is_body ["value"] [] := by
      refine' def_mk KX G ?a_27 ?l_27 ?c_27 ?k_27 (fun _ _ _ _ _ _ us hl => match us, hl with | [_], _ => rfl); (case a_27 => walk_at "q_is"); (case l_27 => walk_at "q_is"); (case c_27 => walk_at "q_is"); (case k_27 => walk_at "q_is")
    have d_need_body : Def (KOf KX) mg "need_body" s_need_body ["body"] [] := by
      refine' def_mk KX G ?a_28 ?l_28 ?c_28 ?k_28 (fun _ _ _ _ _ _ us hl => match us, hl with | [_], _ => rfl); (case a_28 => walk_at "q_is"); (case l_28 => walk_at "q_is"); (case c_28 => walk_at "q_is"); (case k_28 => walk_at "q_is")
    have d_words_of : Def (KOf KX) mg "words_of" s_words_of ["body"] [] := by
      refine' def_mk KX G ?a_29 ?l_29 ?c_29 ?k_29 (fun _ _ _ _ _ _ us hl => match us, hl with | [_], _ => rfl); (case a_29 => walk_at "q_is"); (case l_29 => walk_at "q_is"); (case c_29 => walk_at "q_is"); (case k_29 => walk_at "q_is")
    have d_quotes_of : Def (KOf KX) mg "quotes_of" s_quotes_of ["body"] [] := by
      refine' def_mk KX G ?a_30 ?l_30 ?c_30 ?k_30 (fun _ _ _ _ _ _ us hl => match us, hl with | [_], _ => rfl); (case a_30 => walk_at "q_is"); (case l_30 => walk_at "q_is"); (case c_30 => walk_at "q_is"); (case k_30 => walk_at "q_is")
    have d_copies_of : Def (KOf KX) mg "copies_of" s_copies_of ["body"] [] := by
      refine' def_mk KX G ?a_31 ?l_31 ?c_31 ?k_31 (fun _ _ _ _ _ _ us hl => match us, hl with | [_], _ => rfl); (case a_31 => walk_at "q_is"); (case l_31 => walk_at "q_is"); (case c_31 => walk_at "q_is"); (case k_31 => walk_at "q_is")
    have d_law_pen : Def (KOf KX) mg "_law_pen" s_law_pen ["script"] [] := by
      refine' def_mk KX G ?a_32 ?l_32 ?c_32 ?k_32 (fun _ _ _ _ _ _ us hl => match us, hl with | [_], _ => rfl); (case a_32 => walk_at "q_is"); (case l_32 => walk_at "q_is"); (case c_32 => walk_at "q_is"); (case k_32 => walk_at "q_is")
    have d_law_draw : Def (KOf KX) mg "_law_draw" s_law_draw ["pen", "many"] [] := by
      refine' def_mk KX G ?a_33 ?l_33 ?c_33 ?k_33 (fun _ _ _ _ _ _ us hl => match us, hl with | [_, _], _ => rfl); (case a_33 => walk_at "q_is"); (case l_33 => walk_at "q_is"); (case c_33 => walk_at "q_is"); (case k_33 => walk_at "q_is")
    have d_law_pick : Def (KOf KX) mg "_law_pick" s_law_pick ["pen", "some"] [] := by
      refine' def_mk KX G ?a_34 ?l_34 ?c_34 ?k_34 (fun _ _ _ _ _ _ us hl => match us, hl with | [_, _], _ => rfl); (case a_34 => walk_at "q_is"); (case l_34 => walk_at "q_is"); (case c_34 => walk_at "q_is"); (case k_34 => walk_at "q_is")
    have d_law_is_name : Def (KOf KX) mg "_law_is_name" s_law_is_name ["word"] [] := by
      refine' def_mk KX G ?a_35 ?l_35 ?c_35 ?k_35 (fun _ _ _ _ _ _ us hl => match us, hl with | [_], _ => rfl); (case a_35 => walk_at "q_is"); (case l_35 => walk_at "q_is"); (case c_35 => walk_at "q_is"); (case k_35 => walk_at "q_is")
    have d_law_is_plain : Def (KOf KX) mg "_law_is_plain" s_law_is_plain ["word"] [] := by
      refine' def_mk KX G ?a_36 ?l_36 ?c_36 ?k_36 (fun _ _ _ _ _ _ us hl => match us, hl with | [_], _ => rfl); (case a_36 => walk_at "q_is"); (case l_36 => walk_at "q_is"); (case c_36 => walk_at "q_is"); (case k_36 => walk_at "q_is")
    have d_law_wide_name : Def (KOf KX) mg "_law_wide_name" s_law_wide_name ["pen", "taken"] [] := by
      refine' def_mk KX G ?a_37 ?l_37 ?c_37 ?k_37 (fun _ _ _ _ _ _ us hl => match us, hl with | [_, _], _ => rfl); (case a_37 => walk_at "q_is"); (case l_37 => walk_at "q_is"); (case c_37 => walk_at "q_is"); (case k_37 => walk_at "q_is")
    have d_law_plain : Def (KOf KX) mg "_law_plain" s_law_plain ["pen"] [] := by
      refine' def_mk KX G ?a_38 ?l_38 ?c_38 ?k_38 (fun _ _ _ _ _ _ us hl => match us, hl with | [_], _ => rfl); (case a_38 => walk_at "q_is"); (case l_38 => walk_at "q_is"); (case c_38 => walk_at "q_is"); (case k_38 => walk_at "q_is")
    have d_law_long_number : Def (KOf KX) mg "_law_long_number" s_law_long_number ["pen"] [] := by
      refine' def_mk KX G ?a_39 ?l_39 ?c_39 ?k_39 (fun _ _ _ _ _ _ us hl => match us, hl with | [_], _ => rfl); (case a_39 => walk_at "q_is"); (case l_39 => walk_at "q_is"); (case c_39 => walk_at "q_is"); (case k_39 => walk_at "q_is")
    have d_law_is_whole : Def (KOf KX) mg "_law_is_whole" s_law_is_whole ["value"] [] := by
      refine' def_mk KX G ?a_40 ?l_40 ?c_40 ?k_40 (fun _ _ _ _ _ _ us hl => match us, hl with | [_], _ => rfl); (case a_40 => walk_at "q_is"); (case l_40 => walk_at "q_is"); (case c_40 => walk_at "q_is"); (case k_40 => walk_at "q_is")
    have d_law_is_any_name : Def (KOf KX) mg "_law_is_any_name" s_law_is_any_name ["value"] [] := by
      refine' def_mk KX G ?a_41 ?l_41 ?c_41 ?k_41 (fun _ _ _ _ _ _ us hl => match us, hl with | [_], _ => rfl); (case a_41 => walk_at "q_is"); (case l_41 => walk_at "q_is"); (case c_41 => walk_at "q_is"); (case k_41 => walk_at "q_is")
    have d_law_wide_piece : Def (KOf KX) mg "_law_wide_piece" s_law_wide_piece ["pen"] [] := by
      refine' def_mk KX G ?a_42 ?l_42 ?c_42 ?k_42 (fun _ _ _ _ _ _ us hl => match us, hl with | [_], _ => rfl); (case a_42 => walk_at "q_is"); (case l_42 => walk_at "q_is"); (case c_42 => walk_at "q_is"); (case k_42 => walk_at "q_is")
    have d_law_says : Def (KOf KX) mg "_law_says" s_law_says ["told", "due"] [] := by
      refine' def_mk KX G ?a_43 ?l_43 ?c_43 ?k_43 (fun _ _ _ _ _ _ us hl => match us, hl with | [_, _], _ => rfl); (case a_43 => walk_at "q_is"); (case l_43 => walk_at "q_is"); (case c_43 => walk_at "q_is"); (case k_43 => walk_at "q_is")
    have d_law_is_piece : Def (KOf KX) mg "_law_is_piece" s_law_is_piece ["piece"] [] := by
      refine' def_mk KX G ?a_44 ?l_44 ?c_44 ?k_44 (fun _ _ _ _ _ _ us hl => match us, hl with | [_], _ => rfl); (case a_44 => walk_at "q_is"); (case l_44 => walk_at "q_is"); (case c_44 => walk_at "q_is"); (case k_44 => walk_at "q_is")
    have d_law_is_right_body : Def (KOf KX) mg "_law_is_right_body" s_law_is_right_body ["value"] [] := by
      refine' def_mk KX G ?a_45 ?l_45 ?c_45 ?k_45 (fun _ _ _ _ _ _ us hl => match us, hl with | [_], _ => rfl); (case a_45 => walk_at "q_is"); (case l_45 => walk_at "q_is"); (case c_45 => walk_at "q_is"); (case k_45 => walk_at "q_is")
    have d_law_bent_piece : Def (KOf KX) mg "_law_bent_piece" s_law_bent_piece ["pen", "piece"] [] := by
      refine' def_mk KX G ?a_46 ?l_46 ?c_46 ?k_46 (fun _ _ _ _ _ _ us hl => match us, hl with | [_, _], _ => rfl); (case a_46 => walk_at "q_is"); (case l_46 => walk_at "q_is"); (case c_46 => walk_at "q_is"); (case k_46 => walk_at "q_is")
    have d_law_made_body : Def (KOf KX) mg "_law_made_body" s_law_made_body ["pen"] [] := by
      refine' def_mk KX G ?a_47 ?l_47 ?c_47 ?k_47 (fun _ _ _ _ _ _ us hl => match us, hl with | [_], _ => rfl); (case a_47 => walk_at "q_is"); (case l_47 => walk_at "q_is"); (case c_47 => walk_at "q_is"); (case k_47 => walk_at "q_is")
    have d_law_why_body : Def (KOf KX) mg "_law_why_body" s_law_why_body ["call"] [] := by
      refine' def_mk KX G ?a_48 ?l_48 ?c_48 ?k_48 (fun _ _ _ _ _ _ us hl => match us, hl with | [_], _ => rfl); (case a_48 => walk_at "q_is"); (case l_48 => walk_at "q_is"); (case c_48 => walk_at "q_is"); (case k_48 => walk_at "q_is")
    obtain ⟨fd, hb, F⟩ : ∃ fd : FuncData, (∀ (s : Shared) (u : Value), BindsTo s fd ⟨[u], []⟩ [("script", u)]) ∧ FunC (KOf KX) "law" "law" s_law fa fd (.ref 233) := by
      refine' law_mkC KX G hmg ?a_49 ?l_49 ?c_49 (fun _ _ _ _ _ _ => rfl); (case a_49 => walk_at "q_is"); (case l_49 => walk_at "q_is"); (case c_49 => walk_at "q_is")
    have d_law : Def (KOf KX) mg "law" s_law ["script"] [] := by
      refine' def_mk KX G ?a_50 ?l_50 ?c_50 ?k_50 (fun _ _ _ _ _ _ us hl => match us, hl with | [_], _ => rfl); (case a_50 => walk_at "q_is"); (case l_50 => walk_at "q_is"); (case c_50 => walk_at "q_is"); (case k_50 => walk_at "q_is")
    have T : Txt (KOf KX) mg a_QUOTING a_BadBody i_BadBody := ⟨b_all, b_bool, b_enumerate, b_int, b_isinstance, b_len, b_list, b_range, b_set, b_sorted, b_str, b_tuple, g_LETTERS, g_FIGURES, g_LONGEST_WORD, g_QUOTING, t_QUOTING, g_MOST_PIECES, x_BadBody⟩
    have D : Defs (KOf KX) mg a_QUOTING a_BadBody i_BadBody := ⟨e_BadBody, d_is_whole_1, d_ascending, d_is_made_of, d_is_name, d_is_word, d_is_quoted, d_is_piece, d_is_body, d_need_body, d_words_of, d_quotes_of, d_copies_of, d_law_pen, d_law_draw, d_law_pick, d_law_is_name, d_law_is_plain, d_law_wide_name, d_law_plain, d_law_long_number, d_law_is_whole, d_law_is_any_name, d_law_wide_piece, d_law_says, d_law_is_piece, d_law_is_right_body, d_law_bent_piece, d_law_made_body, d_law_why_body, d_law⟩
    exact ⟨fd, hb, fun base _ _ tb => c_law D T F (tb (233, 231) (List.mem_singleton.mpr rfl))⟩
