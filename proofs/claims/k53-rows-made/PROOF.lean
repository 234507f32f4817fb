import PyProof.Rows.All
import Wide.All
import OpenK.AllK
import Wide.FinOn
import HandS.ForMost
import HandS.ForExc
import HandS.TupAny
import HandS.TupMul
import HandS.IsInst
import HandS.Conv
import HandS.Flow
import HandS.Style
import HandS.Zip
import HandS.StrMore
import HandS.Wide
import HandS.Deep
import HandS.Defaults
import HandS.CallSlots
import HandS.Star
import HandS.MethStar
import HandS.Property
import HandS.OwnEq
import HandS.ExcIs
import HandS.ExcField
import HandS.TryMany
import HandS.NoneIn
import HandS.HeadEnd
import HandS.HeadHook2
import HandS.Head2
import PyProof.ReprRoads
import PyProof.CallFns
import PyProof.ReprBulk
import HandS.ClsMeth
import HandS.SlotsOwn
import HandS.HeadNt
import HandS.Head0
import HandS.Head1
import HandS.Iter
import KE.GoesEnum
import PySem.Challenge.RW_wishedtongues_k53_rows_made
set_option Elab.async false
set_option linter.all false
set_option maxRecDepth 100000
set_option maxHeartbeats 4000000
set_option autoImplicit false
section
/-! L3: values by value, owned cells. -/
namespace L3
open PySem PySem.Spec PyProof.Rows L2

/-- a value that never changes any more -/
inductive D where
  | non | bl (b : Bool) | int (i : Int) | str (s : Str)
  | tup (l : List D) | lst (l : List D)
  /-- the script itself: a list that is read alone -/
  | scr (l : List D)
  | ins (C : Addr) (fs : List (Str × D))
  | opq (a : Addr) | ty (n : String)

/-- a field of an owned instance -/
inductive Fd where
  | fr (d : D) | ow (l : List D)
/-- what an owned object holds -/
inductive Ob where
  | lst (l : List D) | ins (C : Addr) (fs : List (Str × Fd))
/-- a slot: nothing known, a frozen value, an owned object (some k: the k-th parameter's own object) -/
inductive Sl where
  | un | fr (d : D) | ow (t : Option Nat) (o : Ob)
abbrev AS := List Sl

abbrev HSub (F H : Hp) : Prop := ∀ p o, F p = some o → H p = some o

mutual
inductive RepD (K : PySem.W.Frag) (F : Hp) : V → D → Prop
  | non : RepD K F .non .non
  | bl (b : Bool) : RepD K F (.bl b) (.bl b)
  | int (i : Int) : RepD K F (.int i) (.int i)
  | str (s : Str) : RepD K F (.str s) (.str s)
  | tup {a : Addr} {vs : List V} {l : List D} : SqT K F a vs → RepL K F vs l → RepD K F (.ref a) (.tup l)
  | lst {a : Addr} {vs : List V} {l : List D} : F a = some (.lst vs) → RepL K F vs l → RepD K F (.ref a) (.lst l)
  | scr {a : Addr} {vs : List V} {l : List D} : SqL K F a vs → RepL K F vs l → RepD K F (.ref a) (.scr l)
  | ins {a C dx : Addr} {vs : List (Str × V)} {fs : List (Str × D)} : F a = some (.ins C dx vs) → RepN K F vs fs → RepD K F (.ref a) (.ins C fs)
  | opq (a : Addr) : RepD K F (.ref a) (.opq a)
  | ty (n : String) : RepD K F (.ty n) (.ty n)
inductive RepL (K : PySem.W.Frag) (F : Hp) : List V → List D → Prop
  | nil : RepL K F [] []
  | cons {v : V} {vs : List V} {d : D} {ds : List D} : RepD K F v d → RepL K F vs ds → RepL K F (v :: vs) (d :: ds)
inductive RepN (K : PySem.W.Frag) (F : Hp) : List (Str × V) → List (Str × D) → Prop
  | nil : RepN K F [] []
  | cons {x : Str} {v : V} {vs : List (Str × V)} {d : D} {ds : List (Str × D)} : RepD K F v d → RepN K F vs ds → RepN K F ((x, v) :: vs) ((x, d) :: ds)
end

section
variable {K : PySem.W.Frag} {F F' H H' : Hp}
theorem rd_mono {a : Addr} {u : HO} (s : HSub F F') (h : Rd F a u) : Rd F' a u := by
  rcases h with h | ⟨o, h⟩
  · exact .inl (s _ _ h)
  · exact .inr ⟨o, s _ _ h⟩
theorem sqL_mono {a : Addr} {vs : List V} (s : HSub F F') (h : SqL K F a vs) : SqL K F' a vs := by
  rcases h with h | h
  · exact .inl (rd_mono s h)
  · exact .inr h
theorem sqT_mono {a : Addr} {vs : List V} (s : HSub F F') (h : SqT K F a vs) : SqT K F' a vs := by
  rcases h with h | h
  · exact .inl (rd_mono s h)
  · exact .inr h
mutual
theorem RepD.mono (s : HSub F F') : ∀ {v : V} {d : D}, RepD K F v d → RepD K F' v d
  | _, _, .non => .non
  | _, _, .bl b => .bl b
  | _, _, .int i => .int i
  | _, _, .str x => .str x
  | _, _, .tup h r => .tup (sqT_mono s h) (RepL.mono s r)
  | _, _, .lst h r => .lst (s _ _ h) (RepL.mono s r)
  | _, _, .scr h r => .scr (sqL_mono s h) (RepL.mono s r)
  | _, _, .ins h r => .ins (s _ _ h) (RepN.mono s r)
  | _, _, .opq a => .opq a
  | _, _, .ty n => .ty n
theorem RepL.mono (s : HSub F F') : ∀ {v : List V} {d : List D}, RepL K F v d → RepL K F' v d
  | _, _, .nil => .nil
  | _, _, .cons h r => .cons (RepD.mono s h) (RepL.mono s r)
theorem RepN.mono (s : HSub F F') : ∀ {v : List (Str × V)} {d : List (Str × D)}, RepN K F v d → RepN K F' v d
  | _, _, .nil => .nil
  | _, _, .cons h r => .cons (RepD.mono s h) (RepN.mono s r)
end
theorem RepL.length : ∀ {vs : List V} {ds : List D}, RepL K F vs ds → vs.length = ds.length
  | _, _, .nil => rfl
  | _, _, .cons _ r => congrArg (· + 1) r.length
theorem RepL.append : ∀ {vs us : List V} {ds es : List D}, RepL K F vs ds → RepL K F us es → RepL K F (vs ++ us) (ds ++ es)
  | _, _, _, _, .nil, r => r
  | _, _, _, _, .cons h t, r => .cons h (t.append r)
theorem RepL.get : ∀ {vs : List V} {ds : List D} {i : Nat} {d : D}, RepL K F vs ds → ds[i]? = some d → ∃ v, vs[i]? = some v ∧ RepD K F v d
  | _, _, _, _, .nil, e => by simp at e
  | _, _, 0, _, .cons h _, e => by simp at e; subst e; exact ⟨_, rfl, h⟩
  | _, _, i + 1, _, .cons _ r, e => by
    obtain ⟨v, e1, h⟩ := RepL.get (i := i) r (by simpa using e)
    exact ⟨v, by simpa using e1, h⟩
theorem RepL.getV : ∀ {vs : List V} {ds : List D} {i : Nat} {v : V}, RepL K F vs ds → vs[i]? = some v → ∃ d, ds[i]? = some d ∧ RepD K F v d
  | _, _, _, _, .nil, e => by simp at e
  | _, _, 0, _, .cons h _, e => by simp at e; subst e; exact ⟨_, rfl, h⟩
  | _, _, i + 1, _, .cons _ r, e => by
    obtain ⟨v, e1, h⟩ := RepL.getV (i := i) r (by simpa using e)
    exact ⟨v, by simpa using e1, h⟩
theorem RepL.set {v : V} {d : D} (h : RepD K F v d) : ∀ {vs : List V} {ds : List D} (i : Nat), RepL K F vs ds → RepL K F (vs.set i v) (ds.set i d)
  | _, _, _, .nil => .nil
  | _, _, 0, .cons _ r => .cons h r
  | _, _, i + 1, .cons g r => .cons g (RepL.set h i r)
theorem RepL.take : ∀ {vs : List V} {ds : List D} (n : Nat), RepL K F vs ds → RepL K F (vs.take n) (ds.take n)
  | _, _, 0, _ => by simp; exact .nil
  | _, _, _ + 1, .nil => by simp; exact .nil
  | _, _, n + 1, .cons h r => .cons h (RepL.take n r)
theorem RepL.drop : ∀ {vs : List V} {ds : List D} (n : Nat), RepL K F vs ds → RepL K F (vs.drop n) (ds.drop n)
  | _, _, 0, r => r
  | _, _, _ + 1, .nil => by simp; exact .nil
  | _, _, n + 1, .cons _ r => RepL.drop n r
theorem RepN.look : ∀ {vs : List (Str × V)} {ds : List (Str × D)} {f : Str} {d : D}, RepN K F vs ds → ds.lookup f = some d → ∃ v, vs.lookup f = some v ∧ RepD K F v d
  | _, _, _, _, .nil, e => by simp at e
  | _, _, f, d, .cons (x := x) h r, e => by
    rw [List.lookup_cons] at e ⊢
    cases q : f == x with
    | true => rw [q] at e; cases e; exact ⟨_, rfl, h⟩
    | false => rw [q] at e; exact RepN.look r e
theorem RepN.lookNone : ∀ {vs : List (Str × V)} {ds : List (Str × D)} {f : Str}, RepN K F vs ds → ds.lookup f = none → vs.lookup f = none
  | _, _, _, .nil, _ => rfl
  | _, _, f, .cons (x := x) h r, e => by
    rw [List.lookup_cons] at e ⊢
    cases q : f == x with
    | true => rw [q] at e; cases e
    | false => rw [q] at e; exact RepN.lookNone r e
end

/-! ### owned objects -/
inductive RepF (K : PySem.W.Frag) (F H : Hp) : V → Fd → List Addr → Prop
  | fr {v : V} {d : D} : RepD K F v d → RepF K F H v (.fr d) []
  | ow {q : Addr} {vs : List V} {l : List D} : H q = some (.lst vs) → RepL K F vs l → RepF K F H (.ref q) (.ow l) [q]
inductive RepFs (K : PySem.W.Frag) (F H : Hp) : List (Str × V) → List (Str × Fd) → List Addr → Prop
  | nil : RepFs K F H [] [] []
  | cons {x : Str} {v : V} {vs : List (Str × V)} {d : Fd} {ds : List (Str × Fd)} {o1 o2 : List Addr} : RepF K F H v d o1 → RepFs K F H vs ds o2 → RepFs K F H ((x, v) :: vs) ((x, d) :: ds) (o1 ++ o2)
inductive RepOb (K : PySem.W.Frag) (F H : Hp) : Addr → Ob → List Addr → Prop
  | lst {p : Addr} {vs : List V} {l : List D} : H p = some (.lst vs) → RepL K F vs l → RepOb K F H p (.lst l) [p]
  | ins {p C dx : Addr} {vs : List (Str × V)} {fs : List (Str × Fd)} {os : List Addr} : H p = some (.ins C dx vs) → RepFs K F H vs fs os → RepOb K F H p (.ins C fs) (p :: os)
inductive RepS (K : PySem.W.Frag) (ρ : Nat → Addr) (F H : Hp) : Option V → Sl → List Addr → Prop
  | un {v : Option V} : RepS K ρ F H v .un []
  | fr {v : V} {d : D} : RepD K F v d → RepS K ρ F H (some v) (.fr d) []
  | ow {p : Addr} {o : Ob} {t : Option Nat} {os : List Addr} : RepOb K F H p o os → (∀ k, t = some k → ρ k = p) → RepS K ρ F H (some (.ref p)) (.ow t o) os
inductive RepSs (K : PySem.W.Frag) (ρ : Nat → Addr) (F H : Hp) : L2.St → AS → List Addr → Prop
  | nil : RepSs K ρ F H [] [] []
  | cons {v : Option V} {vs : L2.St} {s : Sl} {ss : AS} {o1 o2 : List Addr} : RepS K ρ F H v s o1 → RepSs K ρ F H vs ss o2 → RepSs K ρ F H (v :: vs) (s :: ss) (o1 ++ o2)

section
variable {K : PySem.W.Frag} {ρ : Nat → Addr} {F F' H H' : Hp}
theorem RepF.move (s : HSub F F') : ∀ {v : V} {d : Fd} {os : List Addr}, RepF K F H v d os → (∀ p ∈ os, H' p = H p) → RepF K F' H' v d os
  | _, _, _, .fr h, _ => .fr (h.mono s)
  | _, _, _, .ow h r, k => .ow ((k _ (List.mem_singleton.mpr rfl)).trans h) (r.mono s)
theorem RepFs.move (s : HSub F F') : ∀ {v : List (Str × V)} {d : List (Str × Fd)} {os : List Addr}, RepFs K F H v d os → (∀ p ∈ os, H' p = H p) → RepFs K F' H' v d os
  | _, _, _, .nil, _ => .nil
  | _, _, _, .cons h r, k => .cons (h.move s fun p hp => k p (List.mem_append_left _ hp)) (r.move s fun p hp => k p (List.mem_append_right _ hp))
theorem RepOb.move (s : HSub F F') {p : Addr} {o : Ob} {os : List Addr} (h : RepOb K F H p o os) (k : ∀ p ∈ os, H' p = H p) : RepOb K F' H' p o os := by
  cases h with
  | lst h r => exact .lst ((k _ (List.mem_singleton.mpr rfl)).trans h) (r.mono s)
  | ins h r => exact .ins ((k _ (List.mem_cons_self ..)).trans h) (r.move s fun p hp => k p (List.mem_cons_of_mem _ hp))
theorem RepS.move (s : HSub F F') {v : Option V} {d : Sl} {os : List Addr} (h : RepS K ρ F H v d os) (k : ∀ p ∈ os, H' p = H p) : RepS K ρ F' H' v d os := by
  cases h with
  | un => exact .un
  | fr h => exact .fr (h.mono s)
  | ow h t => exact .ow (h.move s k) t
theorem RepSs.move (s : HSub F F') : ∀ {v : L2.St} {d : AS} {os : List Addr}, RepSs K ρ F H v d os → (∀ p ∈ os, H' p = H p) → RepSs K ρ F' H' v d os
  | _, _, _, .nil, _ => .nil
  | _, _, _, .cons h r, k => .cons (h.move s fun p hp => k p (List.mem_append_left _ hp)) (r.move s fun p hp => k p (List.mem_append_right _ hp))
theorem RepF.dom : ∀ {v : V} {d : Fd} {os : List Addr}, RepF K F H v d os → ∀ p ∈ os, H p ≠ none
  | _, _, _, .fr _, p, h => nomatch h
  | _, _, _, .ow h _, p, hp => by rw [List.mem_singleton.mp hp, h]; simp
theorem RepFs.dom : ∀ {v : List (Str × V)} {d : List (Str × Fd)} {os : List Addr}, RepFs K F H v d os → ∀ p ∈ os, H p ≠ none
  | _, _, _, .nil, p, h => nomatch h
  | _, _, _, .cons h r, p, hp => (List.mem_append.mp hp).elim (h.dom p) (r.dom p)
theorem RepOb.dom {p : Addr} {o : Ob} {os : List Addr} (h : RepOb K F H p o os) : ∀ p ∈ os, H p ≠ none := by
  cases h with
  | lst h r => intro q hq; rw [List.mem_singleton.mp hq, h]; simp
  | ins h r =>
    intro q hq
    rcases List.mem_cons.mp hq with e | hq
    · rw [e, h]; simp
    · exact r.dom q hq
theorem RepS.dom {v : Option V} {d : Sl} {os : List Addr} (h : RepS K ρ F H v d os) : ∀ p ∈ os, H p ≠ none := by
  cases h with
  | un => intro p hp; cases hp
  | fr _ => intro p hp; cases hp
  | ow h _ => exact h.dom
theorem RepSs.dom : ∀ {v : L2.St} {d : AS} {os : List Addr}, RepSs K ρ F H v d os → ∀ p ∈ os, H p ≠ none
  | _, _, _, .nil, p, h => nomatch h
  | _, _, _, .cons h r, p, hp => (List.mem_append.mp hp).elim (h.dom p) (r.dom p)
theorem RepSs.length : ∀ {v : L2.St} {d : AS} {os : List Addr}, RepSs K ρ F H v d os → v.length = d.length
  | _, _, _, .nil => rfl
  | _, _, _, .cons _ r => congrArg (· + 1) r.length
/-- the i-th slot, and what may be put in its place -/
theorem RepSs.zip : ∀ {vs : L2.St} {ss : AS} {os : List Addr} {i : Nat} {s : Sl}, RepSs K ρ F H vs ss os → ss[i]? = some s →
    ∃ v o1 oi o2, vs[i]? = some v ∧ os = o1 ++ oi ++ o2 ∧ RepS K ρ F H v s oi ∧
      ∀ (F' H' : Hp) (v' : Option V) (s' : Sl) (oi' : List Addr), HSub F F' → (∀ p ∈ o1 ++ o2, H' p = H p) → RepS K ρ F' H' v' s' oi' → RepSs K ρ F' H' (vs.set i v') (ss.set i s') (o1 ++ oi' ++ o2)
  | _, _, _, _, _, .nil, e => by simp at e
  | _, _, _, 0, _, .cons (o1 := o1) (o2 := o2) h r, e => by
    simp at e
    subst e
    refine ⟨_, [], o1, o2, rfl, by simp, h, fun F' H' v' s' oi' m k h' => ?_⟩
    exact .cons h' (r.move m fun p hp => k p (by simpa using hp))
  | _, _, _, i + 1, _, .cons (o1 := p1) h r, e => by
    obtain ⟨v, o1, oi, o2, e1, e2, h1, h2⟩ := RepSs.zip (i := i) r (by simpa using e)
    refine ⟨v, p1 ++ o1, oi, o2, by simpa using e1, by rw [e2]; simp, h1, fun F' H' v' s' oi' m k h' => ?_⟩
    have z := RepSs.cons (h.move (F' := F') (H' := H') m fun p hp => k p (by simp [hp])) (h2 F' H' v' s' oi' m (fun p hp => k p (by
      rcases List.mem_append.mp hp with q | q <;> simp [q])) h')
    have e3 : p1 ++ (o1 ++ oi' ++ o2) = p1 ++ o1 ++ oi' ++ o2 := by simp
    rw [e3] at z
    exact z
theorem RepSs.append : ∀ {v v' : L2.St} {d d' : AS} {os os' : List Addr}, RepSs K ρ F H v d os → RepSs K ρ F H v' d' os' → RepSs K ρ F H (v ++ v') (d ++ d') (os ++ os')
  | _, _, _, _, _, _, .nil, r => r
  | _, _, _, _, _, _, .cons h t, r => by
    have z := RepSs.cons h (t.append r)
    rw [← List.append_assoc] at z
    exact z
theorem RepSs.split : ∀ {v : L2.St} {d d' : AS} {os : List Addr}, RepSs K ρ F H v (d ++ d') os → ∃ o1 o2, os = o1 ++ o2 ∧ RepSs K ρ F H (v.take d.length) d o1 ∧ RepSs K ρ F H (v.drop d.length) d' o2
  | v, [], d', os, r => ⟨[], os, rfl, by simp; exact .nil, by simpa using r⟩
  | _, s :: d, d', _, .cons (o1 := p1) h r => by
    obtain ⟨o1, o2, e, r1, r2⟩ := RepSs.split r
    exact ⟨p1 ++ o1, o2, by rw [e]; simp, .cons h r1, r2⟩
end

/-! ### a state, a step -/
structure Rep (K : PySem.W.Frag) (ρ : Nat → Addr) (F H : Hp) (σ : L2.St) (a : AS) (os : List Addr) : Prop where
  sub : HSub F H
  sl : RepSs K ρ F H σ a os
  nd : os.Nodup
  nf : ∀ p ∈ os, F p = none
structure Fm (F H : Hp) (os : List Addr) (F' H' : Hp) (os' : List Addr) : Prop where
  mono : HSub F F'
  keep : ∀ p o, H p = some o → p ∉ os → H' p = some o
  own : ∀ p ∈ os', p ∈ os ∨ H p = none
  frz : ∀ p, F p = none → F' p ≠ none → p ∈ os ∨ H p = none
  dom : ∀ p, H p ≠ none → H' p ≠ none
theorem Fm.refl {F H : Hp} {os : List Addr} : Fm F H os F H os := ⟨fun _ _ e => e, fun _ _ e _ => e, fun _ h => .inl h, fun _ h h' => absurd h h', fun _ h => h⟩
theorem Fm.trans {F H F1 H1 F2 H2 : Hp} {os o1 o2 : List Addr} (a : Fm F H os F1 H1 o1) (b : Fm F1 H1 o1 F2 H2 o2) : Fm F H os F2 H2 o2 where
  mono := fun p o e => b.mono p o (a.mono p o e)
  keep := fun p o e n => b.keep p o (a.keep p o e n) fun hp => (a.own p hp).elim n fun z => by rw [z] at e; cases e
  own := fun p hp => (b.own p hp).elim (a.own p) fun z => .inr (by
    cases q : H p with
    | none => rfl
    | some o => exact absurd z (a.dom p (by rw [q]; simp)))
  frz := fun p n n' => by
    by_cases q : F1 p = none
    · exact (b.frz p q n').elim (a.own p) fun z => .inr (by
        cases q : H p with
        | none => rfl
        | some o => exact absurd z (a.dom p (by rw [q]; simp)))
    · exact a.frz p n q
  dom := fun p h => b.dom p (a.dom p h)
theorem nodup_app {α : Type} {a b : List α} (ha : a.Nodup) (hb : b.Nodup) (h : ∀ x ∈ a, x ∉ b) : (a ++ b).Nodup :=
  List.nodup_append.mpr ⟨ha, hb, fun x hx y hy e => h x hx (e ▸ hy)⟩
section
variable {K : PySem.W.Frag} {ρ : Nat → Addr} {F F' H H' : Hp} {σ σ' : L2.St} {a a' : AS} {os os' o1 : List Addr} {v : Option V} {s : Sl} {p : Addr}
theorem Rep.dom (R : Rep K ρ F H σ a os) (h : p ∈ os) : H p ≠ none := R.sl.dom p h
/-- slots ahead of those that the step sees -/
theorem Rep.push {τ : L2.St} {b : AS} (R1 : RepSs K ρ F H τ b o1) (nd : (o1 ++ os).Nodup) (nf : ∀ p ∈ o1, F p = none) (f : Fm F H os F' H' os') (R' : Rep K ρ F' H' σ' a' os') :
    Rep K ρ F' H' (τ ++ σ') (b ++ a') (o1 ++ os') ∧ Fm F H (o1 ++ os) F' H' (o1 ++ os') := by
  have nd' := List.nodup_append.mp nd
  have out : ∀ p ∈ o1, p ∉ os := fun p h q => nd'.2.2 p h p q rfl
  have keep : ∀ p ∈ o1, H' p = H p := fun p h => by
    cases q : H p with
    | none => exact absurd q (R1.dom p h)
    | some o => exact f.keep p o q (out p h)
  refine ⟨⟨R'.sub, (R1.move f.mono keep).append R'.sl, nodup_app nd'.1 R'.nd fun p h q => ?_, fun p h => ?_⟩, ⟨f.mono, fun p o e n => f.keep p o e fun q => n (List.mem_append_right _ q), fun p h => ?_, fun p n n' => ?_, f.dom⟩⟩
  · exact (f.own p q).elim (out p h) (R1.dom p h)
  · rcases List.mem_append.mp h with h | h
    · cases q : F' p with
      | none => rfl
      | some o => exact ((f.frz p (nf p h) (by rw [q]; simp)).elim (fun z => absurd z (out p h)) fun z => absurd z (R1.dom p h))
    · exact R'.nf p h
  · rcases List.mem_append.mp h with h | h
    · exact .inl (List.mem_append_left _ h)
    · exact (f.own p h).elim (fun z => .inl (List.mem_append_right _ z)) .inr
  · exact (f.frz p n n').elim (fun z => .inl (List.mem_append_right _ z)) .inr
theorem Rep.tail (R : Rep K ρ F H (v :: σ) (s :: a) os) : ∃ o1 o2, os = o1 ++ o2 ∧ RepS K ρ F H v s o1 ∧ Rep K ρ F H σ a o2 ∧ Fm F H os F H o2 := by
  obtain ⟨s1, s2, nd, nf⟩ := R
  cases s2 with
  | cons h r =>
    refine ⟨_, _, rfl, h, ⟨s1, r, (List.nodup_append.mp nd).2.1, fun p hp => nf p (List.mem_append_right _ hp)⟩, ⟨fun _ _ e => e, fun _ _ e _ => e, fun p hp => .inl (List.mem_append_right _ hp), fun _ h h' => absurd h h', fun _ h => h⟩⟩
/-- a frozen value on top -/
theorem Rep.top {d : D} {x : V} (R : Rep K ρ F H (some x :: σ) (.fr d :: a) os) : RepD K F x d ∧ Rep K ρ F H σ a os := by
  obtain ⟨s1, s2, nd, nf⟩ := R
  cases s2 with
  | cons h r =>
    cases h with
    | fr h => exact ⟨h, s1, by simpa using r, by simpa using nd, by simpa using nf⟩
theorem Rep.put {d : D} {x : V} (R : Rep K ρ F H σ a os) (h : RepD K F x d) : Rep K ρ F H (some x :: σ) (.fr d :: a) os :=
  ⟨R.sub, by have := RepSs.cons (RepS.fr (ρ := ρ) (H := H) h) R.sl; simpa using this, R.nd, R.nf⟩
end
end L3
end
section
namespace L3
open PySem PySem.Spec PyProof.Rows L2

/-! ### freezing -/
def frzF : Fd → D
  | .fr d => d
  | .ow l => .lst l
def frzFs : List (Str × Fd) → List (Str × D)
  | [] => []
  | (x, f) :: r => (x, frzF f) :: frzFs r
def frzOb : Ob → D
  | .lst l => .lst l
  | .ins C fs => .ins C (frzFs fs)
def frzS : Sl → Option D
  | .un => none
  | .fr d => some d
  | .ow none o => some (frzOb o)
  | .ow (some _) _ => none
open Classical in
noncomputable def frzH (F H : Hp) (os : List Addr) : Hp := fun p => if p ∈ os then H p else F p
section
variable {K : PySem.W.Frag} {ρ : Nat → Addr} {F F' H H' : Hp} {σ σ' : L2.St} {a a' : AS} {os os' o1 o2 : List Addr} {v : Option V} {s : Sl} {p : Addr}
theorem frzH_in (h : p ∈ o1) : frzH F H o1 p = H p := by unfold frzH; rw [if_pos h]
theorem frzH_out (h : p ∉ o1) : frzH F H o1 p = F p := by unfold frzH; rw [if_neg h]
theorem frzH_mono (nf : ∀ p ∈ o1, F p = none) : HSub F (frzH F H o1) := fun p o e => by
  by_cases h : p ∈ o1
  · rw [nf p h] at e; cases e
  · rw [frzH_out h]; exact e
theorem frzH_sub (s : HSub F H) : HSub (frzH F H o1) H := fun p o e => by
  by_cases h : p ∈ o1
  · rw [frzH_in h] at e; exact e
  · rw [frzH_out h] at e; exact s p o e
theorem frzH_fm (nf : ∀ p ∈ o1, F p = none) (h1 : ∀ p ∈ o1, p ∈ os) (h2 : ∀ p ∈ o2, p ∈ os) : Fm F H os (frzH F H o1) H o2 :=
  ⟨frzH_mono nf, fun _ _ e _ => e, fun p h => .inl (h2 p h), fun p n n' => by
    by_cases h : p ∈ o1
    · exact .inl (h1 p h)
    · rw [frzH_out h] at n'; exact absurd n n', fun _ h => h⟩
theorem RepF.frz {w : V} {f : Fd} (h : RepF K F H w f o2) (m : HSub F F') (k : ∀ p ∈ o2, F' p = H p) : RepD K F' w (frzF f) := by
  cases h with
  | fr h => exact h.mono m
  | ow h r => exact .lst ((k _ (List.mem_singleton.mpr rfl)).trans h) (r.mono m)
theorem RepFs.frz (m : HSub F F') : ∀ {vs : List (Str × V)} {fs : List (Str × Fd)} {o2 : List Addr}, RepFs K F H vs fs o2 → (∀ p ∈ o2, F' p = H p) → RepN K F' vs (frzFs fs)
  | _, _, _, .nil, _ => .nil
  | _, _, _, .cons h r, k => .cons (h.frz m fun p hp => k p (List.mem_append_left _ hp)) (RepFs.frz m r fun p hp => k p (List.mem_append_right _ hp))
theorem RepOb.frz {o : Ob} (h : RepOb K F H p o o2) (m : HSub F F') (k : ∀ p ∈ o2, F' p = H p) : RepD K F' (.ref p) (frzOb o) := by
  cases h with
  | lst h r => exact .lst ((k _ (List.mem_singleton.mpr rfl)).trans h) (r.mono m)
  | ins h r => exact .ins ((k _ List.mem_cons_self).trans h) (r.frz m fun p hp => k p (List.mem_cons_of_mem _ hp))
/-- the value on top is frozen -/
theorem Rep.freeze {x : V} {d : D} (R : Rep K ρ F H (some x :: σ) (s :: a) os) (e : frzS s = some d) :
    ∃ F' os', RepD K F' x d ∧ Rep K ρ F' H σ a os' ∧ Fm F H os F' H os' := by
  obtain ⟨o1, o2, rfl, h, R2, f⟩ := R.tail
  have nf1 : ∀ p ∈ o1, F p = none := fun p hp => R.nf p (List.mem_append_left _ hp)
  have ap := (List.nodup_append.mp R.nd).2.2
  cases h with
  | un => cases e
  | fr h => cases e; exact ⟨F, o2, h, R2, f⟩
  | ow h t =>
    rename_i p o t'
    cases t' with
    | some k => cases e
    | none =>
      cases e
      refine ⟨frzH F H o1, o2, h.frz (frzH_mono nf1) fun p hp => frzH_in hp, ⟨frzH_sub R.sub, R2.sl.move (frzH_mono nf1) fun _ _ => rfl, R2.nd, fun p hp => ?_⟩, frzH_fm nf1 (fun p hp => List.mem_append_left _ hp) (fun p hp => List.mem_append_right _ hp)⟩
      rw [frzH_out fun z => ap p z p hp rfl]
      exact R2.nf p hp
/-- a new object that is frozen at once -/
theorem Rep.alloc {o : HO} (R : Rep K ρ F H σ a os) (n : H p = none) : Rep K ρ (upd F p o) (upd H p o) σ a os ∧ Fm F H os (upd F p o) (upd H p o) os := by
  have ne : ∀ q, H q ≠ none → q ≠ p := fun q h e => h (e ▸ n)
  have fn : F p = none := by
    cases q : F p with
    | none => rfl
    | some u => rw [R.sub p u q] at n; cases n
  have m : HSub F (upd F p o) := fun q u e => by rw [upd_ne (ne q (by rw [R.sub q u e]; simp))]; exact e
  refine ⟨⟨fun q u e => ?_, R.sl.move m fun q hq => upd_ne (ne q (R.dom hq)), R.nd, fun q hq => by rw [upd_ne (ne q (R.dom hq))]; exact R.nf q hq⟩, ⟨m, fun q u e _ => by rw [upd_ne (ne q (by rw [e]; simp))]; exact e, fun q h => .inl h, fun q h h' => ?_, fun q h => by rw [upd_ne (ne q h)]; exact h⟩⟩
  · by_cases e2 : q = p
    · subst e2; rw [upd_same] at e ⊢; exact e
    · rw [upd_ne e2] at e ⊢; exact R.sub q u e
  · by_cases e2 : q = p
    · subst e2; exact .inr n
    · rw [upd_ne e2] at h'; exact absurd h h'
/-- a new list that is owned by the top -/
theorem Rep.allocL {vs : List V} {l : List D} (R : Rep K ρ F H σ a os) (n : H p = none) (r : RepL K F vs l) : Rep K ρ F (upd H p (.lst vs)) (some (.ref p) :: σ) (.ow none (.lst l) :: a) (p :: os) ∧ Fm F H os F (upd H p (.lst vs)) (p :: os) := by
  have ne : ∀ q, H q ≠ none → q ≠ p := fun q h e => h (e ▸ n)
  have fn : F p = none := by
    cases q : F p with
    | none => rfl
    | some u => rw [R.sub p u q] at n; cases n
  refine ⟨⟨fun q u e => ?_, .cons (o1 := [p]) (.ow (.lst upd_same r) fun k z => by cases z) (R.sl.move (fun _ _ e => e) fun q hq => upd_ne (ne q (R.dom hq))), List.nodup_cons.mpr ⟨fun z => R.dom z n, R.nd⟩, fun q hq => ?_⟩, ⟨fun _ _ e => e, fun q u e _ => by rw [upd_ne (ne q (by rw [e]; simp))]; exact e, fun q hq => ?_, fun q h h' => absurd h h', fun q h => by rw [upd_ne (ne q h)]; exact h⟩⟩
  · have := R.sub q u e
    rw [upd_ne (ne q (by rw [this]; simp))]; exact this
  · rcases List.mem_cons.mp hq with e | hq
    · rw [e]; exact fn
    · exact R.nf q hq
  · rcases List.mem_cons.mp hq with e | hq
    · rw [e]; exact .inr n
    · exact .inl hq
end

/-! ### computations over slots -/
/-- an exception: its class; its one field -/
inductive Ex where
  | plain (C : Addr) | fld (C : Addr) (f : Str) (d : D)
inductive Er (α : Type) where
  | ok (r : α) (a : AS) | ex (x : Ex) (a : AS)
abbrev M (α : Type) := AS → Option (Er α)
def ret {α : Type} (r : α) : M α := fun a => some (.ok r a)
def bnd {α β : Type} (m : M α) (f : α → M β) : M β := fun a => match m a with
  | none => none
  | some (.ok r a1) => f r a1
  | some (.ex x a1) => some (.ex x a1)
def lift {α : Type} (o : Option α) : M α := fun a => match o with
  | none => none
  | some r => some (.ok r a)
def RepX (K : PySem.W.Frag) (F : Hp) : Ex → Value → Option Addr → Prop
  | .plain C, c, d => c = .ref C ∧ d = none
  | .fld C f v, c, d => c = .ref C ∧ ∃ dd x, d = some dd ∧ F dd = some (.xd [(f, x)]) ∧ RepD K F x v

section
variable (K : PySem.W.Frag) (ρ : Nat → Addr) (W : WX)
/-- what is wanted of an exception -/
def exOf (F H : Hp) (os : List Addr) (x : Ex) (a' : AS) (σ : L2.St) : Prop := ∀ F' H' os' c d, Rep K ρ F' H' σ a' os' → Fm F H os F' H' os' → RepX K F' x c d → W c d σ H'
/-- an expression's reading by slots -/
def tE (m : M Sl) : TE := fun σ H Q => ∃ F a os o, Rep K ρ F H σ a os ∧ m a = some o ∧ match o with
  | .ok r a' => ∀ F' v H' os', Rep K ρ F' H' (some v :: σ) (r :: a') os' → Fm F H os F' H' os' → Q v H'
  | .ex x a' => exOf K ρ W F H os x a' σ
def tD (m : M D) : TE := fun σ H Q => ∃ F a os o, Rep K ρ F H σ a os ∧ m a = some o ∧ match o with
  | .ok r a' => ∀ F' v H' os', RepD K F' v r → Rep K ρ F' H' σ a' os' → Fm F H os F' H' os' → Q v H'
  | .ex x a' => exOf K ρ W F H os x a' σ
def tT (m : M Bool) : TT := fun σ H Q => ∃ F a os o, Rep K ρ F H σ a os ∧ m a = some o ∧ match o with
  | .ok r a' => ∀ F' H' os', Rep K ρ F' H' σ a' os' → Fm F H os F' H' os' → Q r H'
  | .ex x a' => exOf K ρ W F H os x a' σ
/-- arguments, all frozen -/
def tDs (m : M (List D)) : TA := fun σ H Q => ∃ F a os o, Rep K ρ F H σ a os ∧ m a = some o ∧ match o with
  | .ok r a' => ∀ F' vs H' os', RepL K F' vs r → Rep K ρ F' H' σ a' os' → Fm F H os F' H' os' → Q vs H'
  | .ex x a' => exOf K ρ W F H os x a' σ
inductive Out where
  | nx | bk | ct | rt (r : Sl)
def endOf (D : Ends) (F H : Hp) (os : List Addr) : Er Out → Prop
  | .ok .nx a' => ∀ F' σ' H' os', Rep K ρ F' H' σ' a' os' → Fm F H os F' H' os' → D.nx σ' H'
  | .ok .bk a' => ∀ F' σ' H' os', Rep K ρ F' H' σ' a' os' → Fm F H os F' H' os' → D.bk σ' H'
  | .ok .ct a' => ∀ F' σ' H' os', Rep K ρ F' H' σ' a' os' → Fm F H os F' H' os' → D.ct σ' H'
  | .ok (.rt r) a' => ∀ F' v σ' H' os', Rep K ρ F' H' (some v :: σ') (r :: a') os' → Fm F H os F' H' os' → D.rt v H'
  | .ex x a' => ∀ F' σ' H' os' c d, Rep K ρ F' H' σ' a' os' → Fm F H os F' H' os' → RepX K F' x c d → W c d σ' H'
def tS (m : M Out) : TS := fun D σ H => ∃ F a os o, Rep K ρ F H σ a os ∧ m a = some o ∧ endOf K ρ W D F H os o
end
abbrev VE (X : Cx) (ρ : Nat → Addr) (W : WX) (e : Expr) (m : M Sl) : Prop := PE X e (tE X.K ρ W m)
abbrev VD (X : Cx) (ρ : Nat → Addr) (W : WX) (e : Expr) (m : M D) : Prop := PE X e (tD X.K ρ W m)
abbrev VT (X : Cx) (ρ : Nat → Addr) (W : WX) (e : Expr) (m : M Bool) : Prop := PT X e (tT X.K ρ W m)
abbrev VA (X : Cx) (ρ : Nat → Addr) (W : WX) (es : List Expr) (m : M (List D)) : Prop := PA X es (tDs X.K ρ W m)
abbrev VS (X : Cx) (ρ : Nat → Addr) (W : WX) (s : Stmt) (m : M Out) : Prop := PS X s (tS X.K ρ W m)
abbrev VSs (X : Cx) (ρ : Nat → Addr) (W : WX) (s : List Stmt) (m : M Out) : Prop := PSs X s (tS X.K ρ W m)

section
variable {X : Cx} {ρ : Nat → Addr} {W : WX} {K : PySem.W.Frag}
theorem PE.imp {e : Expr} {t t' : TE} (h : PE X e t) (i : ∀ σ H Q, t' σ H Q → t σ H Q) : PE X e t' := ⟨fun pins s σ H Q I q => h.run pins s σ H Q I (i σ H Q q)⟩
theorem PT.imp {e : Expr} {t t' : TT} (h : PT X e t) (i : ∀ σ H Q, t' σ H Q → t σ H Q) : PT X e t' := ⟨fun pins s σ H Q I q => h.run pins s σ H Q I (i σ H Q q)⟩
theorem PW.imp {e : Expr} {t t' : TT} (h : PW X e t) (i : ∀ σ H Q, t' σ H Q → t σ H Q) : PW X e t' := ⟨fun w pins s σ H Q I q => h.run w pins s σ H Q I (i σ H Q q)⟩
theorem PA.imp {e : List Expr} {t t' : TA} (h : PA X e t) (i : ∀ σ H Q, t' σ H Q → t σ H Q) : PA X e t' := ⟨fun p pins s σ H Q I q => h.run p pins s σ H Q I (i σ H Q q)⟩
theorem PS.imp {e : Stmt} {t t' : TS} (h : PS X e t) (i : ∀ D σ H, t' D σ H → t D σ H) : PS X e t' := ⟨fun pins s σ H Q I q => h.run pins s σ H Q I (i Q σ H q)⟩
theorem PSs.imp {e : List Stmt} {t t' : TS} (h : PSs X e t) (i : ∀ D σ H, t' D σ H → t D σ H) : PSs X e t' := ⟨fun pins s σ H Q I q => h.run pins s σ H Q I (i Q σ H q)⟩

/-- an exception behind a step -/
theorem exOf.step {F H F1 H1 : Hp} {os o1 : List Addr} {x : Ex} {a' : AS} {σ : L2.St} (h : exOf K ρ W F H os x a' σ) (f : Fm F H os F1 H1 o1) : exOf K ρ W F1 H1 o1 x a' σ :=
  fun F' H' os' c d R g r => h F' H' os' c d R (f.trans g) r

/-- one step, then the rest -/
theorem tD.bind {β : Type} {m : M D} {f : D → M β} {σ : L2.St} {H F : Hp} {a : AS} {os : List Addr} {o : Er β} {Q : VK} (R : Rep K ρ F H σ a os) (e : bnd m f a = some o)
    (hx : ∀ x a', o = .ex x a' → exOf K ρ W F H os x a' σ)
    (h : ∀ d a1 F1 v H1 o1, f d a1 = some o → RepD K F1 v d → Rep K ρ F1 H1 σ a1 o1 → Fm F H os F1 H1 o1 → Q v H1) : tD K ρ W m σ H Q := by
  cases q : m a with
  | none => simp [bnd, q] at e
  | some r =>
    cases r with
    | ok d a1 =>
      simp [bnd, q] at e
      exact ⟨F, a, os, _, R, q, fun F' v H' os' rd R' fm => h d a1 F' v H' os' e rd R' fm⟩
    | ex x a1 =>
      simp [bnd, q] at e
      exact ⟨F, a, os, _, R, q, hx x a1 e.symm⟩
theorem tE.bind {β : Type} {m : M Sl} {f : Sl → M β} {σ : L2.St} {H F : Hp} {a : AS} {os : List Addr} {o : Er β} {Q : VK} (R : Rep K ρ F H σ a os) (e : bnd m f a = some o)
    (hx : ∀ x a', o = .ex x a' → exOf K ρ W F H os x a' σ)
    (h : ∀ d a1 F1 v H1 o1, f d a1 = some o → Rep K ρ F1 H1 (some v :: σ) (d :: a1) o1 → Fm F H os F1 H1 o1 → Q v H1) : tE K ρ W m σ H Q := by
  cases q : m a with
  | none => simp [bnd, q] at e
  | some r =>
    cases r with
    | ok d a1 =>
      simp [bnd, q] at e
      exact ⟨F, a, os, _, R, q, fun F' v H' os' R' fm => h d a1 F' v H' os' e R' fm⟩
    | ex x a1 =>
      simp [bnd, q] at e
      exact ⟨F, a, os, _, R, q, hx x a1 e.symm⟩
theorem tT.bind {β : Type} {m : M Bool} {f : Bool → M β} {σ : L2.St} {H F : Hp} {a : AS} {os : List Addr} {o : Er β} {Q : Bool → Hp → Prop} (R : Rep K ρ F H σ a os) (e : bnd m f a = some o)
    (hx : ∀ x a', o = .ex x a' → exOf K ρ W F H os x a' σ)
    (h : ∀ b a1 F1 H1 o1, f b a1 = some o → Rep K ρ F1 H1 σ a1 o1 → Fm F H os F1 H1 o1 → Q b H1) : tT K ρ W m σ H Q := by
  cases q : m a with
  | none => simp [bnd, q] at e
  | some r =>
    cases r with
    | ok d a1 =>
      simp [bnd, q] at e
      exact ⟨F, a, os, _, R, q, fun F' H' os' R' fm => h d a1 F' H' os' e R' fm⟩
    | ex x a1 =>
      simp [bnd, q] at e
      exact ⟨F, a, os, _, R, q, hx x a1 e.symm⟩
theorem tDs.bind {β : Type} {m : M (List D)} {f : List D → M β} {σ : L2.St} {H F : Hp} {a : AS} {os : List Addr} {o : Er β} {Q : List V → Hp → Prop} (R : Rep K ρ F H σ a os) (e : bnd m f a = some o)
    (hx : ∀ x a', o = .ex x a' → exOf K ρ W F H os x a' σ)
    (h : ∀ ds a1 F1 vs H1 o1, f ds a1 = some o → RepL K F1 vs ds → Rep K ρ F1 H1 σ a1 o1 → Fm F H os F1 H1 o1 → Q vs H1) : tDs K ρ W m σ H Q := by
  cases q : m a with
  | none => simp [bnd, q] at e
  | some r =>
    cases r with
    | ok d a1 =>
      simp [bnd, q] at e
      exact ⟨F, a, os, _, R, q, fun F' v H' os' rd R' fm => h d a1 F' v H' os' e rd R' fm⟩
    | ex x a1 =>
      simp [bnd, q] at e
      exact ⟨F, a, os, _, R, q, hx x a1 e.symm⟩

/-! ### frozen, owned -/
def mFrz (m : M Sl) : M D := bnd m fun s => lift (frzS s)
theorem vd_frz {e : Expr} {m : M Sl} (h : VE X ρ W e m) : VD X ρ W e (mFrz m) := PE.imp h fun σ H Q ⟨F, a, os, o, R, e, q⟩ => by
  refine tE.bind R e (fun x a' z => by subst z; exact q) fun s a1 F1 v H1 o1 e1 R1 f1 => ?_
  cases z : frzS s with
  | none => simp [lift, z] at e1
  | some d =>
    simp [lift, z] at e1
    subst e1
    obtain ⟨F2, o2, rd, R2, f2⟩ := R1.freeze z
    exact q F2 v H1 o2 rd R2 (f1.trans f2)
def mFr (m : M D) : M Sl := bnd m fun d => ret (.fr d)
theorem ve_fr {e : Expr} {m : M D} (h : VD X ρ W e m) : VE X ρ W e (mFr m) := PE.imp h fun σ H Q ⟨F, a, os, o, R, e, q⟩ => by
  refine tD.bind R e (fun x a' z => by subst z; exact q) fun d a1 F1 v H1 o1 e1 rd R1 f1 => ?_
  simp [ret] at e1
  subst e1
  exact q F1 v H1 o1 (R1.put rd) f1

/-! ### constants, names -/
theorem vd_const {e : Expr} {v : V} {d : D} (h : PE X e (tC v)) (r : ∀ F, RepD X.K F v d) : VD X ρ W e (ret d) := PE.imp h fun σ H Q ⟨F, a, os, o, R, e, q⟩ => by
  simp [ret] at e
  subst e
  exact q F v H os (r F) R Fm.refl
theorem vd_int {i j pos} : VD X ρ W (.Constant (.int i) j pos) (ret (.int i)) := vd_const pe_int fun _ => .int i
theorem vd_bl {b j pos} : VD X ρ W (.Constant (.bool b) j pos) (ret (.bl b)) := vd_const pe_bl fun _ => .bl b
theorem vd_non {j pos} : VD X ρ W (.Constant .none j pos) (ret .non) := vd_const pe_non fun _ => .non
theorem vd_str {x j pos} : VD X ρ W (.Constant (.str x) j pos) (ret (.str x)) := vd_const pe_str fun _ => .str x
/-- a name: what it owns is frozen -/
def mVar (i : Nat) : M D := fun a => match a[i]? with
  | some (.fr d) => some (.ok d a)
  | some (.ow none o) => some (.ok (frzOb o) (a.set i (.fr (frzOb o))))
  | _ => none
theorem set_same {α : Type} {l : List α} {i : Nat} {x : α} (h : l[i]? = some x) : l.set i x = l := by
  apply List.ext_getElem?
  intro j
  by_cases e : i = j
  · subst e
    rw [List.getElem?_set_self (List.getElem?_eq_some_iff.mp h).1, h]
  · rw [List.getElem?_set_ne e]
theorem frzH_none {F H : Hp} {o1 o2 : List Addr} (nf : ∀ p ∈ o2, F p = none) (h : ∀ p ∈ o2, p ∉ o1) : ∀ p ∈ o2, frzH F H o1 p = none := fun p hp => by
  rw [frzH_out (h p hp)]; exact nf p hp
theorem vd_var {i : Nat} {e : Expr} (h : PE X e (tVar i)) : VD X ρ W e (mVar i) := PE.imp h fun σ H Q ⟨F, a, os, o, R, e, q⟩ => by
  unfold mVar at e
  cases z : a[i]? with
  | none => rw [z] at e; cases e
  | some s =>
    rw [z] at e
    obtain ⟨v, o1, oi, o2, e1, e2, h1, h2⟩ := R.sl.zip z
    cases h1 with
    | un => cases e
    | fr h => cases e; exact ⟨_, e1, q F _ H os h R Fm.refl⟩
    | ow h t =>
      rename_i p ob t'
      cases t' with
      | some k => cases e
      | none =>
        cases e
        subst e2
        have nd := R.nd
        have nf1 : ∀ p ∈ oi, F p = none := fun p hp => R.nf p (by simp [hp])
        rw [List.append_assoc, List.nodup_append, List.nodup_append] at nd
        have hF := h.frz (frzH_mono (H := H) nf1) fun p hp => frzH_in hp
        refine ⟨_, e1, q (frzH F H oi) _ H (o1 ++ [] ++ o2) hF ⟨frzH_sub R.sub, ?_, ?_, ?_⟩ (frzH_fm nf1 (fun p hp => by simp [hp]) fun p hp => ?_)⟩
        · have := h2 (frzH F H oi) H (some (.ref p)) (.fr (frzOb ob)) [] (frzH_mono nf1) (fun _ _ => rfl) (.fr hF)
          rw [set_same e1] at this
          exact this
        · rw [List.append_nil]
          exact nodup_app nd.1 nd.2.1.2.1 fun p hp hq => nd.2.2 p hp p (List.mem_append_right _ hq) rfl
        · rw [List.append_nil]
          refine frzH_none (fun p hp => R.nf p ?_) fun p hp z => ?_
          · rcases List.mem_append.mp hp with hp | hp <;> simp [hp]
          · rcases List.mem_append.mp hp with hp | hp
            · exact nd.2.2 p hp p (List.mem_append_left _ z) rfl
            · exact nd.2.1.2.2 p z p hp rfl
        · rw [List.append_nil] at hp
          rcases List.mem_append.mp hp with hp | hp <;> simp [hp]
end
end L3
end
section
namespace L3
open PySem PySem.Spec PyProof.Rows L2

/-! ### data: equality -/
mutual
def D.py : D → Option PyData
  | .non => some .none
  | .bl b => some (.bool b)
  | .int i => some (.int i)
  | .str s => some (.str s)
  | .tup l => (D.pys l).map .tuple
  | .lst l => (D.pys l).map .list
  | _ => none
def D.pys : List D → Option (List PyData)
  | [] => some []
  | d :: ds => match D.py d, D.pys ds with
    | some p, some ps => some (p :: ps)
    | _, _ => none
end
section
variable {K : PySem.W.Frag} {F H : Hp}
mutual
theorem RepD.dp : ∀ {v : V} {d : D} {p : PyData}, RepD K F v d → HSub F H → d.py = some p → Dp K H v p
  | _, _, _, .non, _, e => by simp [D.py] at e; subst e; exact .non
  | _, _, _, .bl b, _, e => by simp [D.py] at e; subst e; exact .bl b
  | _, _, _, .int i, _, e => by simp [D.py] at e; subst e; exact .int i
  | _, _, _, .str x, _, e => by simp [D.py] at e; subst e; exact .str x
  | _, _, _, .tup (l := l) h r, s, e => by
    simp [D.py] at e
    obtain ⟨ps, e1, e2⟩ := e
    subst e2
    exact .tup (sqT_mono s h) (RepL.dp r s e1)
  | _, _, _, .lst (l := l) h r, s, e => by
    simp [D.py] at e
    obtain ⟨ps, e1, e2⟩ := e
    subst e2
    exact .lst (SqL.of (s _ _ h)) (RepL.dp r s e1)
  | _, _, _, .scr _ _, _, e => by simp [D.py] at e
  | _, _, _, .ins _ _, _, e => by simp [D.py] at e
  | _, _, _, .opq _, _, e => by simp [D.py] at e
  | _, _, _, .ty _, _, e => by simp [D.py] at e
theorem RepL.dp : ∀ {v : List V} {d : List D} {p : List PyData}, RepL K F v d → HSub F H → D.pys d = some p → DpAll K H v p
  | _, _, _, .nil, _, e => by simp [D.pys] at e; subst e; exact .nil
  | _, _, _, .cons (d := d) (ds := ds) h r, s, e => by
    unfold D.pys at e
    split at e
    · rename_i e1 e2
      cases e
      exact .cons (RepD.dp h s e1) (RepL.dp r s e2)
    · cases e
end
end
/-- == of data; depth at most 64 -/
def eqD (x y : D) : Option Bool := match x.py, y.py with
  | some p, some q => if SeqAt.shaped p = true ∧ SeqAt.shaped q = true then some (PyData.eqv p q) else none
  | _, _ => none

/-! ### two operands -/
section
variable {X : Cx} {ρ : Nat → Addr} {W : WX} {K : PySem.W.Frag}
def m2 {α : Type} (f : D → D → Option α) (m1 m2 : M D) : M α := bnd m1 fun x => bnd m2 fun y => lift (f x y)
/-- what an operator does, by data: a frozen answer -/
def OpV (X : Cx) (r : R2) (f : D → D → Option D) : Prop := ∀ {ρ : Nat → Addr} {F H : Hp} {σ : L2.St} {a : AS} {os : List Addr} {x y : V} {d1 d2 d : D} {Q : VK}, Rep X.K ρ F H σ a os → RepD X.K F x d1 → RepD X.K F y d2 → f d1 d2 = some d →
  (∀ F' v H' os', RepD X.K F' v d → Rep X.K ρ F' H' σ a os' → Fm F H os F' H' os' → Q v H') → r x y H Q
def OpE (X : Cx) (r : R2) (f : D → D → Option Sl) : Prop := ∀ {ρ : Nat → Addr} {F H : Hp} {σ : L2.St} {a : AS} {os : List Addr} {x y : V} {d1 d2 : D} {d : Sl} {Q : VK}, Rep X.K ρ F H σ a os → RepD X.K F x d1 → RepD X.K F y d2 → f d1 d2 = some d →
  (∀ F' v H' os', Rep X.K ρ F' H' (some v :: σ) (d :: a) os' → Fm F H os F' H' os' → Q v H') → r x y H Q
theorem two {r : R2} {f : D → D → Option D} {mA mB : M D} (hv : OpV X r f) {σ : L2.St} {H : Hp} {Q : VK} (h : tD X.K ρ W (m2 f mA mB) σ H Q) : tOp r (tD X.K ρ W mA) (tD X.K ρ W mB) σ H Q := by
  obtain ⟨F, a, os, o, R, e, q⟩ := h
  refine tD.bind R e (fun x a' z => by subst z; exact q) fun x a1 F1 v1 H1 o1 e1 r1 R1 f1 => ?_
  refine tD.bind R1 e1 (fun x a' z => by subst z; exact exOf.step q f1) fun y a2 F2 v2 H2 o2 e2 r2 R2 f2 => ?_
  cases z : f x y with
  | none => simp [lift, z] at e2
  | some d =>
    simp [lift, z] at e2
    subst e2
    exact hv R2 (r1.mono f2.mono) r2 z fun F' v H' os' rd R' f' => q F' v H' os' rd R' ((f1.trans f2).trans f')
theorem twoE {r : R2} {f : D → D → Option Sl} {mA mB : M D} (hv : OpE X r f) {σ : L2.St} {H : Hp} {Q : VK} (h : tE X.K ρ W (m2 f mA mB) σ H Q) : tOp r (tD X.K ρ W mA) (tD X.K ρ W mB) σ H Q := by
  obtain ⟨F, a, os, o, R, e, q⟩ := h
  refine tD.bind R e (fun x a' z => by subst z; exact q) fun x a1 F1 v1 H1 o1 e1 r1 R1 f1 => ?_
  refine tD.bind R1 e1 (fun x a' z => by subst z; exact exOf.step q f1) fun y a2 F2 v2 H2 o2 e2 r2 R2 f2 => ?_
  cases z : f x y with
  | none => simp [lift, z] at e2
  | some d =>
    simp [lift, z] at e2
    subst e2
    exact hv R2 (r1.mono f2.mono) r2 z fun F' v H' os' R' f' => q F' v H' os' R' ((f1.trans f2).trans f')
/-- .. a truth value, nothing changes -/
def OpB (X : Cx) (r : R2) (f : D → D → Option Bool) : Prop := ∀ {ρ : Nat → Addr} {F H : Hp} {σ : L2.St} {a : AS} {os : List Addr} {x y : V} {d1 d2 : D} {b : Bool} {Q : VK}, Rep X.K ρ F H σ a os → RepD X.K F x d1 → RepD X.K F y d2 → f d1 d2 = some b →
  Q (.bl b) H → r x y H Q
def bD (f : D → D → Option Bool) : D → D → Option D := fun x y => match f x y with
  | some b => some (.bl b)
  | none => none
theorem OpB.v {r : R2} {f : D → D → Option Bool} (h : OpB X r f) : OpV X r (bD f) := by
  intro ρ F H σ a os x y d1 d2 d Q R r1 r2 e q
  unfold bD at e
  split at e
  · rename_i b z
    cases e
    exact h R r1 r2 z (q F _ H os (.bl b) R Fm.refl)
  · cases e
theorem twoT {r : R2} {f : D → D → Option Bool} {mA mB : M D} (hv : OpB X r f) {σ : L2.St} {H : Hp} {Q : Bool → Hp → Prop} (h : tT X.K ρ W (m2 f mA mB) σ H Q) : tTest (tOp r (tD X.K ρ W mA) (tD X.K ρ W mB)) σ H Q := by
  obtain ⟨F, a, os, o, R, e, q⟩ := h
  refine tD.bind R e (fun x a' z => by subst z; exact q) fun x a1 F1 v1 H1 o1 e1 r1 R1 f1 => ?_
  refine tD.bind R1 e1 (fun x a' z => by subst z; exact exOf.step q f1) fun y a2 F2 v2 H2 o2 e2 r2 R2 f2 => ?_
  cases z : f x y with
  | none => simp [lift, z] at e2
  | some d =>
    simp [lift, z] at e2
    subst e2
    exact hv R2 (r1.mono f2.mono) r2 z ⟨d, rfl, q F2 H2 o2 R2 (f1.trans f2)⟩
variable {e1 e2 : Expr} {mA mB : M D} {pos : Pos}
theorem vd_op {op : Operator} {r : R2} {f : D → D → Option D} (ho : OpR X (binaryOp op) r) (hv : OpV X r f) (ha : VD X ρ W e1 mA) (hb : VD X ρ W e2 mB) : VD X ρ W (.BinOp e1 op e2 pos) (m2 f mA mB) := PE.imp (pe_op ho ha hb) fun _ _ _ h => two hv h
theorem ve_op {op : Operator} {r : R2} {f : D → D → Option Sl} (ho : OpR X (binaryOp op) r) (hv : OpE X r f) (ha : VD X ρ W e1 mA) (hb : VD X ρ W e2 mB) : VE X ρ W (.BinOp e1 op e2 pos) (m2 f mA mB) := PE.imp (pe_op ho ha hb) fun _ _ _ h => twoE hv h
theorem vd_cmp {op : CmpOp} {r : R2} {f : D → D → Option Bool} (ho : OpR X (compareOp op) r) (hv : OpB X r f) (hm : behindInMarks op e2 = false) (ha : VD X ρ W e1 mA) (hb : VD X ρ W e2 mB) :
    VD X ρ W (.Compare e1 [op] [e2] pos) (m2 (bD f) mA mB) := PE.imp (pe_cmpR ho ha hb hm) fun _ _ _ h => two hv.v h
theorem vt_cmp {op : CmpOp} {r : R2} {f : D → D → Option Bool} (ho : OpR X (compareOp op) r) (hv : OpB X r f) (hm : behindInMarks op e2 = false) (ha : VD X ρ W e1 mA) (hb : VD X ρ W e2 mB) :
    VT X ρ W (.Compare e1 [op] [e2] pos) (m2 f mA mB) := PT.imp (pt_cmpR ho ha hb hm) fun _ _ _ h => twoT hv h

/-! ### the operators -/
def addD : D → D → Option Sl
  | .int i, .int j => some (.fr (.int (i + j)))
  | .str s, .str t => if s.length + t.length ≤ sizeLine then some (.fr (.str (s ++ t))) else none
  | .tup xs, .tup ys => if xs.length + ys.length ≤ sizeLine then some (.fr (.tup (xs ++ ys))) else none
  | .lst xs, .lst ys => if xs.length + ys.length ≤ sizeLine then some (.ow none (.lst (xs ++ ys))) else none
  | _, _ => none
def rAddA (K : PySem.W.Frag) : R2 := fun x y H Q => rI0 (fun i j => .int (i + j)) x y H Q ∨ (∃ i j, x = .str i ∧ y = .str j ∧ i.length + j.length ≤ sizeLine ∧ Q (.str (i ++ j)) H) ∨ rCatA K x y H Q ∨ rCat x y H Q
theorem op_addA : OpR X (binaryOp .Add) (rAddA X.K) := op_add.or (op_add_str.or (op_catA.or op_cat))
theorem opv_add : OpE X (rAddA X.K) addD := by
  intro ρ F H σ a os x y d1 d2 d Q R r1 r2 e q
  unfold addD at e
  split at e
  · cases r1; cases r2; cases e
    exact .inl ⟨_, _, rfl, rfl, q F _ H os (R.put (.int _)) Fm.refl⟩
  · split at e
    · rename_i hz
      cases r1; cases r2; cases e
      exact .inr (.inl ⟨_, _, rfl, rfl, hz, q F _ H os (R.put (.str _)) Fm.refl⟩)
    · cases e
  · split at e
    · rename_i hz
      cases e
      cases r1 with
      | tup h1 l1 =>
        cases r2 with
        | tup h2 l2 =>
          refine .inr (.inr (.inl ⟨_, _, _, _, rfl, rfl, sqT_mono R.sub h1, sqT_mono R.sub h2, by rw [l1.length, l2.length]; exact hz, fun z => ?_, fun _ z => ?_, fun _ _ p np => ?_⟩))
          · subst z
            cases l1
            exact q F _ H os (R.put (.tup h2 (by simpa using l2))) Fm.refl
          · subst z
            cases l2
            exact q F _ H os (R.put (.tup h1 (by simpa using l1))) Fm.refl
          · obtain ⟨R', f⟩ := R.alloc (o := .tup _) np
            exact q _ _ _ os (R'.put (.tup (SqT.of upd_same) ((l1.append l2).mono f.mono))) f
    · cases e
  · split at e
    · rename_i hz
      cases e
      cases r1 with
      | lst h1 l1 =>
        cases r2 with
        | lst h2 l2 =>
          refine .inr (.inr (.inr ⟨_, _, _, _, rfl, rfl, R.sub _ _ h1, R.sub _ _ h2, by rw [l1.length, l2.length]; exact hz, fun p np => ?_⟩))
          obtain ⟨R', f⟩ := R.allocL np (l1.append l2)
          exact q _ _ _ _ R' f
    · cases e
  · cases e
def intOp (C : Int → Int → Prop) [∀ i j, Decidable (C i j)] (g : Int → Int → Int) : D → D → Option D
  | .int i, .int j => if C i j then some (.int (g i j)) else none
  | _, _ => none
theorem opv_int {C : Int → Int → Prop} [∀ i j, Decidable (C i j)] {C' : Int → Int → Prop} {g : Int → Int → Int} (hc : ∀ i j, C i j → C' i j) : OpV X (rI C' fun i j => .int (g i j)) (intOp C g) := by
  intro ρ F H σ a os x y d1 d2 d Q R r1 r2 e q
  unfold intOp at e
  split at e
  · split at e
    · rename_i hz
      cases r1; cases r2; cases e
      exact ⟨_, _, rfl, rfl, hc _ _ hz, q F _ H os (.int _) R Fm.refl⟩
    · cases e
  · cases e
def subD : D → D → Option D := intOp (fun _ _ => True) fun i j => i - j
def divD : D → D → Option D := intOp (fun _ j => 0 < j ∧ j < 1073741824) fun i j => i / j
def modD : D → D → Option D := intOp (fun _ j => 0 < j) fun i j => i % j
def powD : D → D → Option D := intOp (fun i j => 0 ≤ j ∧ j ≤ 1000000 ∧ i.natAbs < 2 ^ 64) fun i j => i ^ j.toNat
theorem rI_of {g : Int → Int → V} {x y : V} {H : Hp} {Q : VK} (h : rI (fun _ _ => True) g x y H Q) : rI0 g x y H Q := by
  obtain ⟨i, j, e1, e2, _, q⟩ := h
  exact ⟨i, j, e1, e2, q⟩
theorem opv_sub : OpV X (rI0 fun i j => .int (i - j)) subD := fun R r1 r2 e q => rI_of (opv_int (C' := fun _ _ => True) (fun _ _ _ => trivial) R r1 r2 e q)
theorem opv_div : OpV X (rI CDiv fun i j => .int (i / j)) divD := opv_int fun _ _ h => h
theorem opv_mod : OpV X (rI (fun _ j => 0 < j) fun i j => .int (i % j)) modD := opv_int fun _ _ h => h
theorem opv_pow : OpV X (rI CPow fun i j => .int (i ^ j.toNat)) powD := opv_int fun _ _ h => h
theorem ve_add (ha : VD X ρ W e1 mA) (hb : VD X ρ W e2 mB) : VE X ρ W (.BinOp e1 .Add e2 pos) (m2 addD mA mB) := ve_op op_addA opv_add ha hb
theorem vd_sub (ha : VD X ρ W e1 mA) (hb : VD X ρ W e2 mB) : VD X ρ W (.BinOp e1 .Sub e2 pos) (m2 subD mA mB) := vd_op op_sub opv_sub ha hb
theorem vd_div (ha : VD X ρ W e1 mA) (hb : VD X ρ W e2 mB) : VD X ρ W (.BinOp e1 .FloorDiv e2 pos) (m2 divD mA mB) := vd_op op_fdiv opv_div ha hb
theorem vd_mod (ha : VD X ρ W e1 mA) (hb : VD X ρ W e2 mB) : VD X ρ W (.BinOp e1 .Mod e2 pos) (m2 modD mA mB) := vd_op op_mod opv_mod ha hb
theorem vd_pow (ha : VD X ρ W e1 mA) (hb : VD X ρ W e2 mB) : VD X ρ W (.BinOp e1 .Pow e2 pos) (m2 powD mA mB) := vd_op op_pow opv_pow ha hb

/-! ### comparisons -/
theorem opv_eq : OpB X (rEqD X.K) eqD := by
  intro ρ F H σ a os x y d1 d2 b Q R r1 r2 e q
  unfold eqD at e
  split at e
  · rename_i p1 p2 z1 z2
    split at e
    · rename_i hs
      cases e
      exact ⟨p1, p2, r1.dp R.sub z1, r2.dp R.sub z2, hs.1, hs.2, q⟩
    · cases e
  · cases e
def neD (x y : D) : Option Bool := match eqD x y with
  | some b => some (!b)
  | none => none
theorem opv_ne : OpB X (rNeD X.K) neD := by
  intro ρ F H σ a os x y d1 d2 b Q R r1 r2 e q
  unfold neD at e
  split at e
  · rename_i c z
    cases e
    unfold eqD at z
    split at z
    · rename_i p1 p2 z1 z2
      split at z
      · rename_i hs
        cases z
        exact ⟨p1, p2, r1.dp R.sub z1, r2.dp R.sub z2, hs.1, hs.2, q⟩
      · cases z
    · cases z
  · cases e
def cmpI (g : Int → Int → Bool) : D → D → Option Bool
  | .int i, .int j => some (g i j)
  | _, _ => none
theorem opv_cmpI {g : Int → Int → Bool} : OpB X (rI0 fun i j => .bl (g i j)) (cmpI g) := by
  intro ρ F H σ a os x y d1 d2 b Q R r1 r2 e q
  unfold cmpI at e
  split at e
  · cases r1; cases r2; cases e
    exact ⟨_, _, rfl, rfl, q⟩
  · cases e
def ltD : D → D → Option Bool := cmpI fun i j => decide (i < j)
def leD : D → D → Option Bool := cmpI fun i j => decide (i ≤ j)
def gtD : D → D → Option Bool := cmpI fun i j => decide (j < i)
def geD : D → D → Option Bool := cmpI fun i j => decide (j ≤ i)
theorem vt_lt (ha : VD X ρ W e1 mA) (hb : VD X ρ W e2 mB) : VT X ρ W (.Compare e1 [.Lt] [e2] pos) (m2 ltD mA mB) := vt_cmp op_lt opv_cmpI (nomark _) ha hb
theorem vt_le (ha : VD X ρ W e1 mA) (hb : VD X ρ W e2 mB) : VT X ρ W (.Compare e1 [.LtE] [e2] pos) (m2 leD mA mB) := vt_cmp op_le opv_cmpI (nomark _) ha hb
theorem vt_gt (ha : VD X ρ W e1 mA) (hb : VD X ρ W e2 mB) : VT X ρ W (.Compare e1 [.Gt] [e2] pos) (m2 gtD mA mB) := vt_cmp op_gt opv_cmpI (nomark _) ha hb
theorem vt_ge (ha : VD X ρ W e1 mA) (hb : VD X ρ W e2 mB) : VT X ρ W (.Compare e1 [.GtE] [e2] pos) (m2 geD mA mB) := vt_cmp op_ge opv_cmpI (nomark _) ha hb
theorem vd_lt (ha : VD X ρ W e1 mA) (hb : VD X ρ W e2 mB) : VD X ρ W (.Compare e1 [.Lt] [e2] pos) (m2 (bD ltD) mA mB) := vd_cmp op_lt opv_cmpI (nomark _) ha hb
theorem vd_le (ha : VD X ρ W e1 mA) (hb : VD X ρ W e2 mB) : VD X ρ W (.Compare e1 [.LtE] [e2] pos) (m2 (bD leD) mA mB) := vd_cmp op_le opv_cmpI (nomark _) ha hb
theorem vd_gt (ha : VD X ρ W e1 mA) (hb : VD X ρ W e2 mB) : VD X ρ W (.Compare e1 [.Gt] [e2] pos) (m2 (bD gtD) mA mB) := vd_cmp op_gt opv_cmpI (nomark _) ha hb
theorem vd_ge (ha : VD X ρ W e1 mA) (hb : VD X ρ W e2 mB) : VD X ρ W (.Compare e1 [.GtE] [e2] pos) (m2 (bD geD) mA mB) := vd_cmp op_ge opv_cmpI (nomark _) ha hb
theorem vt_eq (hu : X.A.units + 64 < cLine) (ha : VD X ρ W e1 mA) (hb : VD X ρ W e2 mB) : VT X ρ W (.Compare e1 [.Eq] [e2] pos) (m2 eqD mA mB) := vt_cmp (op_eqD hu) opv_eq (nomark _) ha hb
theorem vt_ne (hu : X.A.units + 64 < cLine) (ha : VD X ρ W e1 mA) (hb : VD X ρ W e2 mB) : VT X ρ W (.Compare e1 [.NotEq] [e2] pos) (m2 neD mA mB) := vt_cmp (op_neD hu) opv_ne (nomark _) ha hb
theorem vd_eq (hu : X.A.units + 64 < cLine) (ha : VD X ρ W e1 mA) (hb : VD X ρ W e2 mB) : VD X ρ W (.Compare e1 [.Eq] [e2] pos) (m2 (bD eqD) mA mB) := vd_cmp (op_eqD hu) opv_eq (nomark _) ha hb
theorem vd_ne (hu : X.A.units + 64 < cLine) (ha : VD X ρ W e1 mA) (hb : VD X ρ W e2 mB) : VD X ρ W (.Compare e1 [.NotEq] [e2] pos) (m2 (bD neD) mA mB) := vd_cmp (op_neD hu) opv_ne (nomark _) ha hb
end
end L3
end
section
namespace L3
open PySem PySem.Spec PyProof.Rows L2
section
variable {X : Cx} {ρ : Nat → Addr} {W : WX} {K : PySem.W.Frag} {e1 e2 e3 : Expr} {mA mB mC : M D} {pos : Pos}

/-! ### * -/
def repD {α : Type} (k : Nat) (l : List α) : List α := (List.replicate k l).flatten
theorem RepL.rep {F : Hp} {vs : List V} {ds : List D} (r : RepL K F vs ds) : ∀ k : Nat, RepL K F (List.replicate k vs).flatten (repD k ds)
  | 0 => .nil
  | k + 1 => by
    unfold repD
    rw [List.replicate_succ, List.replicate_succ, List.flatten_cons, List.flatten_cons]
    exact r.append (RepL.rep r k)
def mulD : D → D → Option Sl
  | .int i, .int j => if i.natAbs < 2 ^ 1000 ∧ j.natAbs < 2 ^ 1000 then some (.fr (.int (i * j))) else none
  | .lst xs, .int k => if -1000000 ≤ k ∧ k ≤ 1000000 ∧ xs.length * k.toNat ≤ sizeLine then some (.ow none (.lst (repD k.toNat xs))) else none
  | .tup xs, .int k => if xs ≠ [] ∧ 2 ≤ k ∧ k ≤ 1000 ∧ xs.length ≤ 1000 then some (.fr (.tup (repD k.toNat xs))) else none
  | _, _ => none
def rMulA (K : PySem.W.Frag) : R2 := fun x y H Q => rI CMulW (fun i j => .int (i * j)) x y H Q ∨ rRep x y H Q ∨ rRepT K x y H Q
theorem op_mulA : OpR X (binaryOp .Mult) (rMulA X.K) := op_mulW.or (op_rep.or op_repT)
theorem opv_mul : OpE X (rMulA X.K) mulD := by
  intro ρ F H σ a os x y d1 d2 d Q R r1 r2 e q
  unfold mulD at e
  split at e
  · split at e
    · rename_i hz
      cases r1; cases r2; cases e
      exact .inl ⟨_, _, rfl, rfl, wide_mul hz.1 hz.2 (by decide) (by decide) (by decide), q F _ H os (R.put (.int _)) Fm.refl⟩
    · cases e
  · split at e
    · rename_i hz
      cases e
      cases r1 with
      | lst h l =>
        cases r2
        refine .inr (.inl ⟨_, _, _, rfl, rfl, R.sub _ _ h, by omega, by omega, by rw [l.length]; exact hz.2.2, fun p np => ?_⟩)
        obtain ⟨R', f⟩ := R.allocL np (l.rep _)
        exact q _ _ _ _ R' f
    · cases e
  · split at e
    · rename_i hz
      cases e
      cases r1 with
      | tup h l =>
        cases r2
        refine .inr (.inr ⟨_, _, _, rfl, rfl, sqT_mono R.sub h, fun z => ?_, hz.2.1, hz.2.2.1, by rw [l.length]; exact hz.2.2.2, fun p np => ?_⟩)
        · subst z
          cases l
          exact hz.1 rfl
        · obtain ⟨R', f⟩ := R.alloc (o := .tup _) np
          exact q _ _ _ os (R'.put (.tup (SqT.of upd_same) ((l.rep _).mono f.mono))) f
    · cases e
  · cases e
theorem ve_mul (ha : VD X ρ W e1 mA) (hb : VD X ρ W e2 mB) : VE X ρ W (.BinOp e1 .Mult e2 pos) (m2 mulD mA mB) := ve_op op_mulA opv_mul ha hb

/-! ### -a -/
def m1 {α : Type} (f : D → Option α) (m : M D) : M α := bnd m fun x => lift (f x)
def negD : D → Option D
  | .int i => some (.int (-i))
  | _ => none
theorem vd_neg (ha : VD X ρ W e1 mA) : VD X ρ W (.UnaryOp .USub e1 pos) (m1 negD mA) := PE.imp (pe_un un_neg ha) fun σ H Q ⟨F, a, os, o, R, e, q⟩ => by
  refine tD.bind R e (fun x a' z => by subst z; exact q) fun x a1 F1 v1 H1 o1 e1 r1 R1 f1 => ?_
  cases x with
  | int i =>
    cases r1
    simp [lift, negD] at e1
    subst e1
    exact ⟨i, rfl, q F1 _ H1 o1 (.int _) R1 f1⟩
  | _ => simp [lift, negD] at e1

/-! ### is None -/
def isND : D → Bool
  | .non => true
  | _ => false
theorem isND_ok {F : Hp} {v : V} {d : D} (r : RepD K F v d) : decide (v = .non) = isND d := by cases r <;> rfl
theorem vd_isN {j pos'} (ha : VD X ρ W e1 mA) : VD X ρ W (.Compare e1 [.Is] [.Constant .none j pos'] pos) (m1 (fun x => some (.bl (isND x))) mA) := PE.imp (pe_cmp (pc_isN ha) rfl) fun σ H Q ⟨F, a, os, o, R, e, q⟩ => by
  refine tD.bind R e (fun x a' z => by subst z; exact q) fun x a1 F1 v1 H1 o1 e1 r1 R1 f1 => ?_
  simp [lift] at e1
  subst e1
  rw [isND_ok r1]
  exact q F1 _ H1 o1 (.bl _) R1 f1
theorem vd_notN {j pos'} (ha : VD X ρ W e1 mA) : VD X ρ W (.Compare e1 [.IsNot] [.Constant .none j pos'] pos) (m1 (fun x => some (.bl (!isND x))) mA) := PE.imp (pe_cmp (pc_notN ha) rfl) fun σ H Q ⟨F, a, os, o, R, e, q⟩ => by
  refine tD.bind R e (fun x a' z => by subst z; exact q) fun x a1 F1 v1 H1 o1 e1 r1 R1 f1 => ?_
  simp [lift] at e1
  subst e1
  rw [isND_ok r1]
  exact q F1 _ H1 o1 (.bl _) R1 f1
theorem tB_of {t : TE} {m : M D} (h : PE X e1 t) : True := trivial
/-- a value that is a truth value, as a test -/
def blD : D → Option Bool
  | .bl b => some b
  | _ => none
def mTst (m : M D) : M Bool := m1 blD m
theorem tB_tst {σ : L2.St} {H : Hp} {Q : Bool → Hp → Prop} (h : tT X.K ρ W (mTst mA) σ H Q) : tB (tD X.K ρ W mA) σ H Q := by
  obtain ⟨F, a, os, o, R, e, q⟩ := h
  refine tD.bind R e (fun x a' z => by subst z; exact q) fun x a1 F1 v1 H1 o1 e1 r1 R1 f1 => ?_
  cases x with
  | bl b =>
    cases r1
    simp [lift, blD] at e1
    subst e1
    exact ⟨b, rfl, q F1 H1 o1 R1 f1⟩
  | _ => simp [lift, blD] at e1
theorem vt_val (ha : VD X ρ W e1 mA) (he : ∀ whole, isTrue e1 X.env whole = (do let v ← whole; standAt e1.pos; holding [v] (truthy v)) := by intro _; rfl) : VT X ρ W e1 (mTst mA) := PT.imp (pt_val ha he) fun σ H Q h => tB_tst h
def mIsN (m : M D) : M Bool := m1 (fun x => some (isND x)) m
def mNotN (m : M D) : M Bool := m1 (fun x => some (!isND x)) m
theorem vt_isN {j pos'} (ha : VD X ρ W e1 mA) : VT X ρ W (.Compare e1 [.Is] [.Constant .none j pos'] pos) (mIsN mA) := PT.imp (pt_cmp (pc_isN ha) rfl) fun σ H Q ⟨F, a, os, o, R, e, q⟩ => by
  refine tD.bind R e (fun x a' z => by subst z; exact q) fun x a1 F1 v1 H1 o1 e1 r1 R1 f1 => ?_
  simp [lift] at e1
  subst e1
  rw [isND_ok r1]
  exact ⟨_, rfl, q F1 H1 o1 R1 f1⟩
theorem vt_notN {j pos'} (ha : VD X ρ W e1 mA) : VT X ρ W (.Compare e1 [.IsNot] [.Constant .none j pos'] pos) (mNotN mA) := PT.imp (pt_cmp (pc_notN ha) rfl) fun σ H Q ⟨F, a, os, o, R, e, q⟩ => by
  refine tD.bind R e (fun x a' z => by subst z; exact q) fun x a1 F1 v1 H1 o1 e1 r1 R1 f1 => ?_
  simp [lift] at e1
  subst e1
  rw [isND_ok r1]
  exact ⟨_, rfl, q F1 H1 o1 R1 f1⟩

/-! ### and, or, not -/
variable {tA tB' : M Bool} {rest : List Expr}
def mAnd (t u : M Bool) : M Bool := bnd t fun c => if c = true then u else ret false
def mOr (t u : M Bool) : M Bool := bnd t fun c => if c = true then ret true else u
def mNot (t : M Bool) : M Bool := bnd t fun c => ret (!c)
abbrev VW (X : Cx) (ρ : Nat → Addr) (W : WX) (e : Expr) (m : M Bool) : Prop := PW X e (tT X.K ρ W m)
theorem vw_and1 (ha : VT X ρ W e1 tA) : VW X ρ W (.BoolOp .And [e1] pos) tA := pw_and1 ha
theorem vw_or1 (ha : VT X ρ W e1 tA) : VW X ρ W (.BoolOp .Or [e1] pos) tA := pw_or1 ha
theorem vw_and (ha : VT X ρ W e1 tA) (hb : VW X ρ W (.BoolOp .And (e2 :: rest) pos) tB') : VW X ρ W (.BoolOp .And (e1 :: e2 :: rest) pos) (mAnd tA tB') := PW.imp (pw_and ha hb) fun σ H Q ⟨F, a, os, o, R, e, q⟩ => by
  refine tT.bind R e (fun x a' z => by subst z; exact q) fun c a1 F1 H1 o1 e1 R1 f1 => ?_
  cases c with
  | true =>
    refine iteT ⟨F1, a1, o1, o, R1, by simpa using e1, ?_⟩
    cases o with
    | ok r a' => exact fun F' H' os' R' f' => q F' H' os' R' (f1.trans f')
    | ex x a' => exact exOf.step q f1
  | false =>
    simp [ret] at e1
    subst e1
    exact iteF (q F1 H1 o1 R1 f1)
theorem vw_or (ha : VT X ρ W e1 tA) (hb : VW X ρ W (.BoolOp .Or (e2 :: rest) pos) tB') : VW X ρ W (.BoolOp .Or (e1 :: e2 :: rest) pos) (mOr tA tB') := PW.imp (pw_or ha hb) fun σ H Q ⟨F, a, os, o, R, e, q⟩ => by
  refine tT.bind R e (fun x a' z => by subst z; exact q) fun c a1 F1 H1 o1 e1 R1 f1 => ?_
  cases c with
  | false =>
    refine iteF ⟨F1, a1, o1, o, R1, by simpa using e1, ?_⟩
    cases o with
    | ok r a' => exact fun F' H' os' R' f' => q F' H' os' R' (f1.trans f')
    | ex x a' => exact exOf.step q f1
  | true =>
    simp [ret] at e1
    subst e1
    exact iteT (q F1 H1 o1 R1 f1)
theorem vt_w (h : VW X ρ W e1 tA) : VT X ρ W e1 tA := h.pt
theorem vt_not (ha : VT X ρ W e1 tA) : VT X ρ W (.UnaryOp .Not e1 pos) (mNot tA) := PT.imp (pt_not ha) fun σ H Q ⟨F, a, os, o, R, e, q⟩ => by
  refine tT.bind R e (fun x a' z => by subst z; exact q) fun c a1 F1 H1 o1 e1 R1 f1 => ?_
  simp [ret] at e1
  subst e1
  exact q F1 H1 o1 R1 f1
/-- as values -/
def mAndV (t u : M D) : M D := bnd t fun x => match x with
  | .bl true => u
  | .bl false => ret (.bl false)
  | _ => fun _ => none
def mOrV (t u : M D) : M D := bnd t fun x => match x with
  | .bl true => ret (.bl true)
  | .bl false => u
  | _ => fun _ => none
def mNotV (t : M D) : M D := m1 (fun x => match x with
  | .bl b => some (.bl (!b))
  | _ => none) t
theorem vd_one {op : BoolOp} (h : VD X ρ W e1 mA) : VD X ρ W (.BoolOp op [e1] pos) mA := pe_one h
theorem vd_and (ha : VD X ρ W e1 mA) (hb : VD X ρ W (.BoolOp .And (e2 :: rest) pos) mB) : VD X ρ W (.BoolOp .And (e1 :: e2 :: rest) pos) (mAndV mA mB) := PE.imp (pe_and ha hb) fun σ H Q ⟨F, a, os, o, R, e, q⟩ => by
  refine tD.bind R e (fun x a' z => by subst z; exact q) fun c a1 F1 v1 H1 o1 e1 r1 R1 f1 => ?_
  cases c with
  | bl b =>
    cases r1
    refine ⟨b, rfl, ?_⟩
    cases b with
    | true =>
      refine iteT ⟨F1, a1, o1, o, R1, by simpa using e1, ?_⟩
      cases o with
      | ok r a' => exact fun F' v' H' os' rd R' f' => q F' v' H' os' rd R' (f1.trans f')
      | ex x a' => exact exOf.step q f1
    | false =>
      simp [ret] at e1
      subst e1
      exact iteF (q F1 _ H1 o1 (.bl _) R1 f1)
  | _ => cases e1
theorem vd_or (ha : VD X ρ W e1 mA) (hb : VD X ρ W (.BoolOp .Or (e2 :: rest) pos) mB) : VD X ρ W (.BoolOp .Or (e1 :: e2 :: rest) pos) (mOrV mA mB) := PE.imp (pe_or ha hb) fun σ H Q ⟨F, a, os, o, R, e, q⟩ => by
  refine tD.bind R e (fun x a' z => by subst z; exact q) fun c a1 F1 v1 H1 o1 e1 r1 R1 f1 => ?_
  cases c with
  | bl b =>
    cases r1
    refine ⟨b, rfl, ?_⟩
    cases b with
    | false =>
      refine iteF ⟨F1, a1, o1, o, R1, by simpa using e1, ?_⟩
      cases o with
      | ok r a' => exact fun F' v' H' os' rd R' f' => q F' v' H' os' rd R' (f1.trans f')
      | ex x a' => exact exOf.step q f1
    | true =>
      simp [ret] at e1
      subst e1
      exact iteT (q F1 _ H1 o1 (.bl _) R1 f1)
  | _ => cases e1
theorem vd_not (ha : VD X ρ W e1 mA) : VD X ρ W (.UnaryOp .Not e1 pos) (mNotV mA) := PE.imp (pe_not ha) fun σ H Q ⟨F, a, os, o, R, e, q⟩ => by
  refine tD.bind R e (fun x a' z => by subst z; exact q) fun c a1 F1 v1 H1 o1 e1 r1 R1 f1 => ?_
  cases c with
  | bl b =>
    cases r1
    simp [lift] at e1
    subst e1
    exact ⟨b, rfl, q F1 _ H1 o1 (.bl _) R1 f1⟩
  | _ => cases e1
def mIfE {α : Type} (t : M Bool) (u w : M α) : M α := bnd t fun c => if c = true then u else w
theorem vd_if (hc : VT X ρ W e1 tA) (ha : VD X ρ W e2 mA) (hb : VD X ρ W e3 mB) : VD X ρ W (.IfExp e1 e2 e3 pos) (mIfE tA mA mB) := PE.imp (pe_ifExp hc ha hb) fun σ H Q ⟨F, a, os, o, R, e, q⟩ => by
  refine tT.bind R e (fun x a' z => by subst z; exact q) fun c a1 F1 H1 o1 e1 R1 f1 => ?_
  cases c with
  | true =>
    refine iteT ⟨F1, a1, o1, o, R1, by simpa using e1, ?_⟩
    cases o with
    | ok r a' => exact fun F' v' H' os' rd R' f' => q F' v' H' os' rd R' (f1.trans f')
    | ex x a' => exact exOf.step q f1
  | false =>
    refine iteF ⟨F1, a1, o1, o, R1, by simpa using e1, ?_⟩
    cases o with
    | ok r a' => exact fun F' v' H' os' rd R' f' => q F' v' H' os' rd R' (f1.trans f')
    | ex x a' => exact exOf.step q f1

/-! ### a < b < c -/
def mCh {α : Type} (no : α) (f : D → D → Option Bool) (g : D → D → Option α) (ma mb mc : M D) : M α := bnd ma fun x => bnd mb fun y => bnd (lift (f x y)) fun k => if k = true then bnd mc fun z => lift (g y z) else ret no
theorem chain_ok {r r' : R2} {f g : D → D → Option Bool} (hf : OpB X r f) (hg : OpB X r' g) {σ : L2.St} {H F : Hp} {a : AS} {os : List Addr} {Q : VK} {o : Er Bool} (R : Rep X.K ρ F H σ a os) (e : mCh false f g mA mB mC a = some o)
    (q : ∀ b a' F' H' os', o = .ok b a' → Rep X.K ρ F' H' σ a' os' → Fm F H os F' H' os' → Q (.bl b) H') (hx : ∀ x a', o = .ex x a' → exOf X.K ρ W F H os x a' σ) : tChain r r' (tD X.K ρ W mA) (tD X.K ρ W mB) (tD X.K ρ W mC) σ H Q := by
  refine tD.bind R e hx fun x a1 F1 v1 H1 o1 e1 r1 R1 f1 => ?_
  refine tD.bind R1 e1 (fun x a' z => exOf.step (hx x a' z) f1) fun y a2 F2 v2 H2 o2 e2 r2 R2 f2 => ?_
  cases z : f x y with
  | none => simp [lift, z, bnd] at e2
  | some k =>
    refine hf R2 (r1.mono f2.mono) r2 z ⟨k, rfl, ?_⟩
    cases k with
    | false =>
      simp [lift, z, bnd, ret] at e2
      subst e2
      exact iteF (q false a2 F2 H2 o2 rfl R2 (f1.trans f2))
    | true =>
      have e2' : bnd mC (fun z => lift (g y z)) a2 = some o := by simpa [lift, z, bnd] using e2
      refine iteT (tD.bind R2 e2' (fun x a' z => exOf.step (hx x a' z) (f1.trans f2)) fun w a3 F3 v3 H3 o3 e3 r3 R3 f3 => ?_)
      cases z2 : g y w with
      | none => simp [lift, z2] at e3
      | some k2 =>
        simp [lift, z2] at e3
        exact hg R3 (r2.mono f3.mono) r3 z2 (q k2 a3 F3 H3 o3 e3.symm R3 ((f1.trans f2).trans f3))
theorem vt_chain {op op' : CmpOp} {r r' : R2} {f g : D → D → Option Bool} (ho : OpR X (compareOp op) r) (ho' : OpR X (compareOp op') r') (hf : OpB X r f) (hg : OpB X r' g) (ha : VD X ρ W e1 mA) (hb : VD X ρ W e2 mB) (hc : VD X ρ W e3 mC)
    (hm : lastMarks [op, op'] [e2, e3] = false := by with_unfolding_all rfl) : VT X ρ W (.Compare e1 [op, op'] [e2, e3] pos) (mCh false f g mA mB mC) := PT.imp (pt_chain ho ho' ha hb hc hm) fun σ H Q ⟨F, a, os, o, R, e, q⟩ => by
  refine chain_ok hf hg R e (fun b a' F' H' os' z R' f' => ?_) (fun x a' z => by subst z; exact q)
  subst z
  exact ⟨b, rfl, q F' H' os' R' f'⟩
def mBl (m : M Bool) : M D := bnd m fun b => ret (.bl b)
theorem vd_chain {op op' : CmpOp} {r r' : R2} {f g : D → D → Option Bool} (ho : OpR X (compareOp op) r) (ho' : OpR X (compareOp op') r') (hf : OpB X r f) (hg : OpB X r' g) (ha : VD X ρ W e1 mA) (hb : VD X ρ W e2 mB) (hc : VD X ρ W e3 mC)
    (hm : lastMarks [op, op'] [e2, e3] = false := by with_unfolding_all rfl) : VD X ρ W (.Compare e1 [op, op'] [e2, e3] pos) (mBl (mCh false f g mA mB mC)) := PE.imp (pe_chain ho ho' ha hb hc hm) fun σ H Q ⟨F, a, os, o, R, e, q⟩ => by
  unfold mBl bnd at e
  cases z : mCh false f g mA mB mC a with
  | none => rw [z] at e; cases e
  | some o' =>
    rw [z] at e
    refine chain_ok hf hg R z (fun b a' F' H' os' z' R' f' => ?_) (fun x a' z' => ?_)
    · subst z'
      simp [ret] at e
      subst e
      exact q F' _ H' os' (.bl _) R' f'
    · subst z'
      simp at e
      subst e
      exact q
end
end L3
end
section
namespace L3
open PySem PySem.Spec PyProof.Rows L2

/-! ### what may be looked at, owned or frozen -/
inductive RepH (K : PySem.W.Frag) (F H : Hp) : V → D → Prop
  | fr {v : V} {d : D} : RepD K F v d → RepH K F H v d
  | lst {p : Addr} {vs : List V} {l : List D} : H p = some (.lst vs) → RepL K F vs l → RepH K F H (.ref p) (.lst l)
def view : Sl → Option D
  | .fr d => some d
  | .ow _ (.lst l) => some (.lst l)
  | _ => none
def mView (i : Nat) : M D := fun a => match a[i]? with
  | some s => (match view s with
    | some d => some (.ok d a)
    | none => none)
  | none => none
section
variable {K : PySem.W.Frag} {F H : Hp} {ρ : Nat → Addr} {σ : L2.St} {a : AS} {os : List Addr}
theorem Rep.view {i : Nat} {o : Er D} (R : Rep K ρ F H σ a os) (e : mView i a = some o) : ∃ d v, o = .ok d a ∧ σ[i]? = some (some v) ∧ RepH K F H v d := by
  unfold mView at e
  split at e
  · rename_i s z
    obtain ⟨v, o1, oi, o2, e1, e2, h1, h2⟩ := R.sl.zip z
    cases h1 with
    | un => simp [L3.view] at e
    | fr h => simp [L3.view] at e; exact ⟨_, _, e.symm, e1, .fr h⟩
    | ow h t =>
      cases h with
      | lst h r => simp [L3.view] at e; exact ⟨_, _, e.symm, e1, .lst h r⟩
      | ins h r => simp [L3.view] at e
  · cases e
theorem view_bnd {α : Type} {i : Nat} {f : D → M α} {o : Er α} (R : Rep K ρ F H σ a os) (e : bnd (mView i) f a = some o) : ∃ d v, f d a = some o ∧ σ[i]? = some (some v) ∧ RepH K F H v d := by
  unfold bnd at e
  cases z : mView i a with
  | none => rw [z] at e; cases e
  | some o' =>
    rw [z] at e
    obtain ⟨d, v, rfl, e1, h⟩ := R.view z
    exact ⟨d, v, e, e1, h⟩
end
/-- an operator whose left side is looked at -/
def OpH (X : Cx) (r : R2) (f : D → D → Option D) : Prop := ∀ {ρ : Nat → Addr} {F H : Hp} {σ : L2.St} {a : AS} {os : List Addr} {x y : V} {d1 d2 d : D} {Q : VK}, Rep X.K ρ F H σ a os → RepH X.K F H x d1 → RepD X.K F y d2 → f d1 d2 = some d →
  (∀ F' v H' os', RepD X.K F' v d → Rep X.K ρ F' H' σ a os' → Fm F H os F' H' os' → Q v H') → r x y H Q
/-- .. whose right side is, for a truth value -/
def OpHB (X : Cx) (r : R2) (f : D → D → Option Bool) : Prop := ∀ {ρ : Nat → Addr} {F H : Hp} {σ : L2.St} {a : AS} {os : List Addr} {x y : V} {d1 d2 : D} {b : Bool} {Q : VK}, Rep X.K ρ F H σ a os → RepD X.K F x d1 → RepH X.K F H y d2 → f d1 d2 = some b →
  Q (.bl b) H → r x y H Q
section
variable {X : Cx} {ρ : Nat → Addr} {W : WX} {K : PySem.W.Frag} {e1 e2 e3 : Expr} {mA mB mC : M D} {pos : Pos}
theorem OpH.v {r : R2} {f : D → D → Option D} (h : OpH X r f) : OpV X r f := fun R r1 r2 e q => h R (.fr r1) r2 e q
theorem OpHB.b {r : R2} {f : D → D → Option Bool} (h : OpHB X r f) : OpB X r f := fun R r1 r2 e q => h R r1 (.fr r2) e q

/-! ### subscripts -/
theorem RepL.atI {F : Hp} {vs : List V} {ds : List D} {i : Int} {d : D} (r : RepL K F vs ds) (e : L2.atI ds i = some d) : ∃ v, L2.atI vs i = some v ∧ RepD K F v d := by
  unfold L2.atI at e ⊢
  rw [r.length]
  cases z : ixN ds.length i with
  | none => rw [z] at e; cases e
  | some j =>
    rw [z] at e
    obtain ⟨v, e1, h⟩ := r.get (i := j) (by simpa using e)
    exact ⟨v, by simpa using e1, h⟩
def idxD (x i : D) : Option D := match x, i with
  | .tup l, .int k => L2.atI l k
  | .lst l, .int k => L2.atI l k
  | .scr l, .int k => L2.atI l k
  | .str s, .int k => if s.length ≤ sizeLine then (L2.atI s.cps.toList k).map (fun c => .str ⟨#[c]⟩) else none
  | _, _ => none
theorem opv_ix : OpH X (rIx X.K) idxD := by
  intro ρ F H σ a os x y d1 d2 d Q R r1 r2 e q
  unfold idxD at e
  split at e
  · cases r2
    cases r1 with
    | fr r1 =>
      cases r1 with
      | tup h l =>
        obtain ⟨v, e1, rv⟩ := l.atI e
        exact .inr (.inl ⟨_, _, _, v, rfl, rfl, sqT_mono R.sub h, e1, q F v H os rv R Fm.refl⟩)
  · cases r2
    cases r1 with
    | fr r1 =>
      cases r1 with
      | lst h l =>
        obtain ⟨v, e1, rv⟩ := l.atI e
        exact .inl ⟨_, _, _, v, rfl, rfl, SqL.of (R.sub _ _ h), e1, q F v H os rv R Fm.refl⟩
    | lst h l =>
      obtain ⟨v, e1, rv⟩ := l.atI e
      exact .inl ⟨_, _, _, v, rfl, rfl, SqL.of h, e1, q F v H os rv R Fm.refl⟩
  · cases r2
    cases r1 with
    | fr r1 =>
      cases r1 with
      | scr h l =>
        obtain ⟨v, e1, rv⟩ := l.atI e
        exact .inl ⟨_, _, _, v, rfl, rfl, sqL_mono R.sub h, e1, q F v H os rv R Fm.refl⟩
  · cases r2
    split at e
    · rename_i hz
      cases r1 with
      | fr r1 =>
        cases r1
        rename_i s k
        cases z : L2.atI s.cps.toList k with
        | none => rw [z] at e; cases e
        | some c =>
          rw [z] at e
          cases e
          exact .inr (.inr ⟨s, k, c, rfl, rfl, hz, z, q F _ H os (.str _) R Fm.refl⟩)
    · cases e
  · cases e
theorem vd_ix (ha : VD X ρ W e1 mA) (hb : VD X ρ W e2 mB) (hs : PlainIx e2 := by intro _ _; rfl) : VD X ρ W (.Subscript e1 e2 pos) (m2 idxD mA mB) := PE.imp (pe_ix ix_seq ha hb hs) fun _ _ _ h => two opv_ix.v h
/-- x[e], x a name -/
def mV2 {α : Type} (f : D → D → Option α) (i : Nat) (m : M D) : M α := bnd (mView i) fun _ => bnd m fun y => bnd (mView i) fun x => lift (f x y)
theorem viewTwo {r : R2} {f : D → D → Option D} (hv : OpH X r f) {i : Nat} {σ : L2.St} {H : Hp} {Q : VK} (h : tD X.K ρ W (mV2 f i mB) σ H Q) : tOp r (tVar i) (tD X.K ρ W mB) σ H Q := by
  obtain ⟨F, a, os, o, R, e, q⟩ := h
  obtain ⟨d0, v0, e1, ev, h0⟩ := view_bnd R e
  refine ⟨v0, ev, ?_⟩
  refine tD.bind R e1 (fun x a' z => by subst z; exact q) fun y a2 F2 v2 H2 o2 e2 r2 R2 f2 => ?_
  obtain ⟨x, v1, e3, ev1, h1⟩ := view_bnd R2 e2
  rw [ev] at ev1
  cases ev1
  cases z : f x y with
  | none => simp [lift, z] at e3
  | some d =>
    simp [lift, z] at e3
    subst e3
    exact hv R2 h1 r2 z fun F' v H' os' rd R' f' => q F' v H' os' rd R' (f2.trans f')
theorem vd_ixV (i : Nat) (hn : PE X e1 (tVar i)) (hb : VD X ρ W e2 mB) (hs : PlainIx e2 := by intro _ _; rfl) : VD X ρ W (.Subscript e1 e2 pos) (mV2 idxD i mB) := PE.imp (pe_ix ix_seq hn hb hs) fun _ _ _ h => viewTwo opv_ix h

/-! ### slices -/
def cut {α : Type} (xs : List α) (lo hi : Option Int) : List α := (xs.drop (HT.sIx xs.length 0 lo)).take (HT.sIx xs.length xs.length hi - HT.sIx xs.length 0 lo)
theorem RepL.cut {F : Hp} {vs : List V} {ds : List D} (r : RepL K F vs ds) (lo hi : Option Int) : RepL K F (cutV vs lo hi) (cut ds lo hi) := by
  unfold cutV L3.cut
  rw [r.length]
  exact (r.drop _).take _
def sliceD (x : D) (lo hi : Option Int) : Option Sl := match x with
  | .tup l => some (.fr (.tup (cut l lo hi)))
  | .lst l => some (.ow none (.lst (cut l lo hi)))
  | .scr l => some (.ow none (.lst (cut l lo hi)))
  | .str s => if s.length ≤ sizeLine then some (.fr (.str (cutS s lo hi))) else none
  | _ => none
def rSl (K : PySem.W.Frag) : V → Option Int → Option Int → Hp → VK → Prop := fun x lo hi H Q => rSlA K x lo hi H Q ∨ rSlL K x lo hi H Q ∨ rSlS x lo hi H Q
theorem sl_all : SlR X (rSl X.K) := sl_tupA.or (sl_list.or sl_str)
theorem cut_whole {α : Type} {xs : List α} {lo hi : Option Int} (h : HT.sIx xs.length 0 lo = 0 ∧ HT.sIx xs.length xs.length hi = xs.length) : cut xs lo hi = xs := by
  unfold cut
  rw [h.1, h.2]
  simp
theorem slice_ok {F H : Hp} {σ : L2.St} {a : AS} {os : List Addr} {x : V} {d : D} {s : Sl} {lo hi : Option Int} {Q : VK} (R : Rep X.K ρ F H σ a os) (r1 : RepH X.K F H x d) (e : sliceD d lo hi = some s)
    (q : ∀ F' v H' os', Rep X.K ρ F' H' (some v :: σ) (s :: a) os' → Fm F H os F' H' os' → Q v H') : rSl X.K x lo hi H Q := by
  unfold sliceD at e
  split at e
  · cases e
    cases r1 with
    | fr r1 =>
      cases r1 with
      | tup h l =>
        refine .inl ⟨_, _, rfl, sqT_mono R.sub h, fun z => ?_, fun _ p np => ?_⟩
        · rw [l.length] at z
          rw [cut_whole z] at q
          exact q F _ H os (R.put (.tup h l)) Fm.refl
        · obtain ⟨R', f⟩ := R.alloc (o := .tup _) np
          exact q _ _ _ os (R'.put (.tup (SqT.of upd_same) ((l.cut _ _).mono f.mono))) f
  · cases e
    have fin : ∀ {p : Addr} {vs : List V} {l : List D}, RepL X.K F vs l → H p = none → (∀ F' v H' os', Rep X.K ρ F' H' (some v :: σ) (.ow none (.lst (cut l lo hi)) :: a) os' → Fm F H os F' H' os' → Q v H') → Q (.ref p) (upd H p (.lst (cutV vs lo hi))) := fun l np q => by
      obtain ⟨R', f⟩ := R.allocL np (l.cut lo hi)
      exact q _ _ _ _ R' f
    cases r1 with
    | fr r1 =>
      cases r1 with
      | lst h l => exact .inr (.inl ⟨_, _, rfl, SqL.of (R.sub _ _ h), fun p np => fin l np q⟩)
    | lst h l => exact .inr (.inl ⟨_, _, rfl, SqL.of h, fun p np => fin l np q⟩)
  · cases e
    cases r1 with
    | fr r1 =>
      cases r1 with
      | scr h l =>
        refine .inr (.inl ⟨_, _, rfl, sqL_mono R.sub h, fun p np => ?_⟩)
        obtain ⟨R', f⟩ := R.allocL np (l.cut lo hi)
        exact q _ _ _ _ R' f
  · split at e
    · rename_i hz
      cases e
      cases r1 with
      | fr r1 =>
        cases r1
        exact .inr (.inr ⟨_, rfl, hz, q F _ H os (R.put (.str _)) Fm.refl⟩)
    · cases e
  · cases e
/-- a part of a slice -/
def mPart (m : M D) : M (Option Int) := m1 (fun d => match d with
  | .int i => some (some i)
  | _ => none) m
def tOI (K : PySem.W.Frag) (ρ : Nat → Addr) (W : WX) (m : M (Option Int)) : TO := fun σ H Q => ∃ F a os o, Rep K ρ F H σ a os ∧ m a = some o ∧ match o with
  | .ok r a' => ∀ F' H' os', Rep K ρ F' H' σ a' os' → Fm F H os F' H' os' → Q r H'
  | .ex x a' => exOf K ρ W F H os x a' σ
abbrev VP (X : Cx) (ρ : Nat → Addr) (W : WX) (e : Option Expr) (m : M (Option Int)) : Prop := PO X e (tOI X.K ρ W m)
theorem PO.imp {e : Option Expr} {t t' : TO} (h : PO X e t) (i : ∀ σ H Q, t' σ H Q → t σ H Q) : PO X e t' := ⟨by
  have h := h.run
  intros
  rename_i q
  first
    | exact h _ _ _ _ _ (by assumption) (i _ _ _ q)
    | exact h _ _ _ _ (by assumption) (i _ _ _ q)⟩
theorem vp_none : VP X ρ W none (ret none) := PO.imp po_none fun σ H Q ⟨F, a, os, o, R, e, q⟩ => by
  simp [ret] at e
  subst e
  exact q F H os R Fm.refl
theorem vp_some (h : VD X ρ W e1 mA) : VP X ρ W (some e1) (mPart mA) := PO.imp (po_some h) fun σ H Q ⟨F, a, os, o, R, e, q⟩ => by
  refine tD.bind R e (fun x a' z => by subst z; exact q) fun y a2 F2 v2 H2 o2 e2 r2 R2 f2 => ?_
  cases y with
  | int i =>
    cases r2
    simp [lift] at e2
    subst e2
    exact ⟨i, rfl, q F2 H2 o2 R2 f2⟩
  | _ => simp [lift] at e2
theorem tOI.bind {β : Type} {m : M (Option Int)} {f : Option Int → M β} {σ : L2.St} {H F : Hp} {a : AS} {os : List Addr} {o : Er β} {Q : Option Int → Hp → Prop} (R : Rep K ρ F H σ a os) (e : bnd m f a = some o)
    (hx : ∀ x a', o = .ex x a' → exOf K ρ W F H os x a' σ)
    (h : ∀ b a1 F1 H1 o1, f b a1 = some o → Rep K ρ F1 H1 σ a1 o1 → Fm F H os F1 H1 o1 → Q b H1) : tOI K ρ W m σ H Q := by
  cases q : m a with
  | none => simp [bnd, q] at e
  | some r =>
    cases r with
    | ok d a1 =>
      simp [bnd, q] at e
      exact ⟨F, a, os, _, R, q, fun F' H' os' R' fm => h d a1 F' H' os' e R' fm⟩
    | ex x a1 =>
      simp [bnd, q] at e
      exact ⟨F, a, os, _, R, q, hx x a1 e.symm⟩
variable {lo hi : Option Expr} {ml mh : M (Option Int)} {p2 : Pos}
def mSl (m : M D) (l h : M (Option Int)) : M Sl := bnd m fun x => bnd l fun i => bnd h fun j => lift (sliceD x i j)
def mSlV (k : Nat) (l h : M (Option Int)) : M Sl := bnd (mView k) fun _ => bnd l fun i => bnd h fun j => bnd (mView k) fun x => lift (sliceD x i j)
theorem ve_slice (ha : VD X ρ W e1 mA) (hl : VP X ρ W lo ml) (hh : VP X ρ W hi mh) : VE X ρ W (.Subscript e1 (.Slice lo hi none p2) pos) (mSl mA ml mh) := PE.imp (pe_slice sl_all ha hl hh) fun σ H Q ⟨F, a, os, o, R, e, q⟩ => by
  refine tD.bind R e (fun x a' z => by subst z; exact q) fun x a1 F1 v1 H1 o1 e1 r1 R1 f1 => ?_
  refine tOI.bind R1 e1 (fun x a' z => by subst z; exact exOf.step q f1) fun i a2 F2 H2 o2 e2 R2 f2 => ?_
  refine tOI.bind R2 e2 (fun x a' z => by subst z; exact exOf.step q (f1.trans f2)) fun j a3 F3 H3 o3 e3 R3 f3 => ?_
  cases z : sliceD x i j with
  | none => simp [lift, z] at e3
  | some s =>
    simp [lift, z] at e3
    subst e3
    exact slice_ok R3 (.fr ((r1.mono f2.mono).mono f3.mono)) z fun F' v H' os' R' f' => q F' v H' os' R' (((f1.trans f2).trans f3).trans f')
theorem ve_sliceV (k : Nat) (hn : PE X e1 (tVar k)) (hl : VP X ρ W lo ml) (hh : VP X ρ W hi mh) : VE X ρ W (.Subscript e1 (.Slice lo hi none p2) pos) (mSlV k ml mh) := PE.imp (pe_slice sl_all hn hl hh) fun σ H Q ⟨F, a, os, o, R, e, q⟩ => by
  obtain ⟨d0, v0, e1, ev, h0⟩ := view_bnd R e
  refine ⟨v0, ev, ?_⟩
  refine tOI.bind R e1 (fun x a' z => by subst z; exact q) fun i a2 F2 H2 o2 e2 R2 f2 => ?_
  refine tOI.bind R2 e2 (fun x a' z => by subst z; exact exOf.step q f2) fun j a3 F3 H3 o3 e3 R3 f3 => ?_
  obtain ⟨x, v1, e4, ev1, h1⟩ := view_bnd R3 e3
  rw [ev] at ev1
  cases ev1
  cases z : sliceD x i j with
  | none => simp [lift, z] at e4
  | some s =>
    simp [lift, z] at e4
    subst e4
    exact slice_ok R3 h1 z fun F' v H' os' R' f' => q F' v H' os' R' ((f2.trans f3).trans f')

/-! ### in -/
def flatB : D → Bool
  | .non => true
  | .bl _ => true
  | .int _ => true
  | .str _ => true
  | _ => false
def eqF : D → D → Bool
  | .non, .non => true
  | .bl a, .bl b => a == b
  | .bl a, .int b => (if a then 1 else 0) == b
  | .int a, .bl b => a == (if b then 1 else 0)
  | .int a, .int b => a == b
  | .str a, .str b => a == b
  | _, _ => false
theorem flat_ok {F : Hp} {v : V} {d : D} (r : RepD K F v d) : flatV v = flatB d := by cases r <;> rfl
theorem eqF_ok {F : Hp} {v w : V} {d e : D} (r : RepD K F v d) (s : RepD K F w e) : eqV v w = eqF d e := by cases r <;> cases s <;> rfl
theorem flats_ok {F : Hp} : ∀ {vs : List V} {ds : List D}, RepL K F vs ds → vs.all flatV = ds.all flatB
  | _, _, .nil => rfl
  | _, _, .cons h r => by rw [List.all_cons, List.all_cons, flat_ok h, flats_ok r]
theorem inV_ok {F : Hp} {v : V} {d : D} (h : RepD K F v d) : ∀ {vs : List V} {ds : List D}, RepL K F vs ds → inV v vs = ds.any fun y => eqF y d
  | _, _, .nil => rfl
  | _, _, .cons g r => by
    have := inV_ok h r
    unfold inV at this ⊢
    rw [List.any_cons, List.any_cons, this, eqF_ok g h]
def itemsD : D → Option (List D)
  | .tup l => some l
  | .lst l => some l
  | .scr l => some l
  | _ => none
def inD (x y : D) : Option Bool := match itemsD y with
  | some l => if flatB x = true ∧ l.all flatB = true then some (l.any fun z => eqF z x) else none
  | none => none
def ninD (x y : D) : Option Bool := match inD x y with
  | some b => some (!b)
  | none => none
theorem RepH.items {F H : Hp} {v : V} {d : D} {l : List D} (r : RepH K F H v d) (s : HSub F H) (e : itemsD d = some l) : ∃ p vs, v = .ref p ∧ (SqL K H p vs ∨ SqT K H p vs) ∧ RepL K F vs l := by
  cases r with
  | fr r =>
    cases r with
    | tup h r => cases e; exact ⟨_, _, rfl, .inr (sqT_mono s h), r⟩
    | lst h r => cases e; exact ⟨_, _, rfl, .inl (SqL.of (s _ _ h)), r⟩
    | scr h r => cases e; exact ⟨_, _, rfl, .inl (sqL_mono s h), r⟩
    | _ => cases e
  | lst h r => cases e; exact ⟨_, _, rfl, .inl (SqL.of h), r⟩
theorem opv_in : OpHB X (rIn X.K false) inD := by
  intro ρ F H σ a os x y d1 d2 b Q R r1 r2 e q
  unfold inD at e
  split at e
  · rename_i l z
    split at e
    · rename_i hz
      cases e
      obtain ⟨p, vs, rfl, hs, rl⟩ := r2.items R.sub z
      exact ⟨p, vs, rfl, hs, by rw [flat_ok r1]; exact hz.1, by rw [flats_ok rl]; exact hz.2, by rw [if_neg Bool.false_ne_true, inV_ok r1 rl]; exact q⟩
    · cases e
  · cases e
theorem opv_nin : OpHB X (rIn X.K true) ninD := by
  intro ρ F H σ a os x y d1 d2 b Q R r1 r2 e q
  unfold ninD at e
  split at e
  · rename_i c e'
    cases e
    unfold inD at e'
    split at e'
    · rename_i l z
      split at e'
      · rename_i hz
        cases e'
        obtain ⟨p, vs, rfl, hs, rl⟩ := r2.items R.sub z
        exact ⟨p, vs, rfl, hs, by rw [flat_ok r1]; exact hz.1, by rw [flats_ok rl]; exact hz.2, by rw [if_pos rfl, inV_ok r1 rl]; exact q⟩
      · cases e'
    · cases e'
  · cases e
theorem vt_in (ha : VD X ρ W e1 mA) (hb : VD X ρ W e2 mB) (hm : behindInMarks .In e2 = false := by rfl) : VT X ρ W (.Compare e1 [.In] [e2] pos) (m2 inD mA mB) := vt_cmp op_in_seq opv_in.b hm ha hb
theorem vt_nin (ha : VD X ρ W e1 mA) (hb : VD X ρ W e2 mB) (hm : behindInMarks .NotIn e2 = false := by rfl) : VT X ρ W (.Compare e1 [.NotIn] [e2] pos) (m2 ninD mA mB) := vt_cmp op_notIn_seq opv_nin.b hm ha hb
theorem vd_in (ha : VD X ρ W e1 mA) (hb : VD X ρ W e2 mB) (hm : behindInMarks .In e2 = false := by rfl) : VD X ρ W (.Compare e1 [.In] [e2] pos) (m2 (bD inD) mA mB) := vd_cmp op_in_seq opv_in.b hm ha hb
theorem vd_nin (ha : VD X ρ W e1 mA) (hb : VD X ρ W e2 mB) (hm : behindInMarks .NotIn e2 = false := by rfl) : VD X ρ W (.Compare e1 [.NotIn] [e2] pos) (m2 (bD ninD) mA mB) := vd_cmp op_notIn_seq opv_nin.b hm ha hb
/-- .. the right side a name -/
def m2V {α : Type} (f : D → D → Option α) (m : M D) (i : Nat) : M α := bnd m fun x => bnd (mView i) fun y => lift (f x y)
theorem vt_cmpV {op : CmpOp} {r : R2} {f : D → D → Option Bool} (ho : OpR X (compareOp op) r) (hv : OpHB X r f) (hm : behindInMarks op e2 = false) (i : Nat) (ha : VD X ρ W e1 mA) (hn : PE X e2 (tVar i)) : VT X ρ W (.Compare e1 [op] [e2] pos) (m2V f mA i) :=
  PT.imp (pt_cmpR ho ha hn hm) fun σ H Q ⟨F, a, os, o, R, e, q⟩ => by
    refine tD.bind R e (fun x a' z => by subst z; exact q) fun x a1 F1 v1 H1 o1 e1 r1 R1 f1 => ?_
    obtain ⟨y, v2, e2, ev, h1⟩ := view_bnd R1 e1
    refine ⟨v2, ev, ?_⟩
    cases z : f x y with
    | none => simp [lift, z] at e2
    | some d =>
      simp [lift, z] at e2
      subst e2
      exact hv R1 r1 h1 z ⟨d, rfl, q F1 H1 o1 R1 f1⟩
theorem vt_inV (i : Nat) (ha : VD X ρ W e1 mA) (hn : PE X e2 (tVar i)) (hm : behindInMarks .In e2 = false := by rfl) : VT X ρ W (.Compare e1 [.In] [e2] pos) (m2V inD mA i) := vt_cmpV op_in_seq opv_in hm i ha hn
theorem vt_ninV (i : Nat) (ha : VD X ρ W e1 mA) (hn : PE X e2 (tVar i)) (hm : behindInMarks .NotIn e2 = false := by rfl) : VT X ρ W (.Compare e1 [.NotIn] [e2] pos) (m2V ninD mA i) := vt_cmpV op_notIn_seq opv_nin hm i ha hn

/-! ### arguments, displays -/
variable {es : List Expr} {ms : M (List D)}
def mNil : M (List D) := ret []
def mCons (m : M D) (r : M (List D)) : M (List D) := bnd m fun x => bnd r fun xs => ret (x :: xs)
theorem va_nil : VA X ρ W [] mNil := PA.imp pa_nil fun σ H Q ⟨F, a, os, o, R, e, q⟩ => by
  simp [mNil, ret] at e
  subst e
  exact q F [] H os .nil R Fm.refl
theorem va_cons (ha : VD X ρ W e1 mA) (hr : VA X ρ W es ms) (hs : starEach (e1 :: es) X.env = (false, eval e1 X.env) :: starEach es X.env := by rfl) : VA X ρ W (e1 :: es) (mCons mA ms) := PA.imp (pa_cons ha hr hs) fun σ H Q ⟨F, a, os, o, R, e, q⟩ => by
  refine tD.bind R e (fun x a' z => by subst z; exact q) fun x a1 F1 v1 H1 o1 e1 r1 R1 f1 => ?_
  refine tDs.bind R1 e1 (fun x a' z => by subst z; exact exOf.step q f1) fun xs a2 F2 vs H2 o2 e2 r2 R2 f2 => ?_
  simp [ret] at e2
  subst e2
  exact q F2 _ H2 o2 (.cons (r1.mono f2.mono) r2) R2 (f1.trans f2)
def mTup (m : M (List D)) : M D := bnd m fun l => lift (if l.length ≤ sizeLine then some (.tup l) else none)
def mLst (m : M (List D)) : M Sl := bnd m fun l => lift (if l.length ≤ sizeLine then some (.ow none (.lst l)) else none)
theorem vd_tup {x1} (h : VA X ρ W es ms) : VD X ρ W (.Tuple es x1 pos) (mTup ms) := PE.imp (pe_tup h) fun σ H Q ⟨F, a, os, o, R, e, q⟩ => by
  refine tDs.bind R e (fun x a' z => by subst z; exact q) fun xs a2 F2 vs H2 o2 e2 r2 R2 f2 => ?_
  split at e2
  · rename_i hz
    simp [lift] at e2
    subst e2
    refine ⟨by rw [r2.length]; exact hz, fun p np => ?_⟩
    obtain ⟨R', f⟩ := R2.alloc (o := .tup _) np
    exact q _ _ _ o2 (.tup (SqT.of upd_same) (r2.mono f.mono)) R' (f2.trans f)
  · simp [lift] at e2
theorem ve_lst (h : VA X ρ W es ms) : VE X ρ W (.List es pos) (mLst ms) := PE.imp (pe_lst h) fun σ H Q ⟨F, a, os, o, R, e, q⟩ => by
  refine tDs.bind R e (fun x a' z => by subst z; exact q) fun xs a2 F2 vs H2 o2 e2 r2 R2 f2 => ?_
  split at e2
  · rename_i hz
    simp [lift] at e2
    subst e2
    refine ⟨by rw [r2.length]; exact hz, fun p np => ?_⟩
    obtain ⟨R', f⟩ := R2.allocL np r2
    exact q _ _ _ _ R' (f2.trans f)
  · simp [lift] at e2
end
end L3
end
section
namespace L3
open PySem PySem.Spec PyProof.Rows L2
section
variable {X : Cx} {ρ : Nat → Addr} {W : WX} {K : PySem.W.Frag} {e1 e2 e3 : Expr} {mA mB mC : M D} {es : List Expr} {ms : M (List D)} {pos p : Pos} {x : Str}
/-- a built-in's call by data -/
def CallV (X : Cx) (r : List V → Hp → VK → Prop) (f : List D → Option Sl) : Prop := ∀ {ρ : Nat → Addr} {F H : Hp} {σ : L2.St} {a : AS} {os : List Addr} {vs : List V} {ds : List D} {d : Sl} {Q : VK}, Rep X.K ρ F H σ a os → RepL X.K F vs ds → f ds = some d →
  (∀ F' v H' os', Rep X.K ρ F' H' (some v :: σ) (d :: a) os' → Fm F H os F' H' os' → Q v H') → r vs H Q
def mCal (f : List D → Option Sl) (ms : M (List D)) : M Sl := bnd ms fun l => lift (f l)
theorem tcb_ok {r : List V → Hp → VK → Prop} {f : List D → Option Sl} (hv : CallV X r f) {σ : L2.St} {H : Hp} {Q : VK} (h : tE X.K ρ W (mCal f ms) σ H Q) : tCB r (tDs X.K ρ W ms) σ H Q := by
  obtain ⟨F, a, os, o, R, e, q⟩ := h
  refine tDs.bind R e (fun x a' z => by subst z; exact q) fun xs a2 F2 vs H2 o2 e2 r2 R2 f2 => ?_
  cases z : f xs with
  | none => simp [lift, z] at e2
  | some s =>
    simp [lift, z] at e2
    subst e2
    exact hv R2 r2 z fun F' v H' os' R' f' => q F' v H' os' R' (f2.trans f')
theorem ve_callB {id : String} {r : List V → Hp → VK → Prop} {f : List D → Option Sl} (hc : CallR X (.builtin id) r) (hv : CallV X r f) (hg : Gl X x) (hm : X.mg x = none) (hb : bootBuiltins x = some (.builtin id)) (ha : VA X ρ W (e1 :: es) ms)
    (hn : x ≠ "__name__" := by decide) (hdb : (x == ("__debug__" : Str)) = false := by decide) (he : starEach (e1 :: es) X.env = (false, eval e1 X.env) :: starEach es X.env := by rfl) (hpl : (backTo pos (starEach es X.env)).any (·.1) = false := by rfl) :
    VE X ρ W (.Call (.Name x p) (e1 :: es) [] pos) (mCal f ms) := PE.imp (pe_callB hc hg hm hb ha hn hdb he hpl) fun _ _ _ h => tcb_ok hv h
theorem ve_callTy {T : String} {r : List V → Hp → VK → Prop} {f : List D → Option Sl} (hc : CallR X (.type T) r) (hv : CallV X r f) (hg : Gl X x) (hm : X.mg x = none) (hb : bootBuiltins x = some (.type T)) (ha : VA X ρ W (e1 :: es) ms)
    (hn : x ≠ "__name__" := by decide) (hdb : (x == ("__debug__" : Str)) = false := by decide) (he : starEach (e1 :: es) X.env = (false, eval e1 X.env) :: starEach es X.env := by rfl) (hpl : (backTo pos (starEach es X.env)).any (·.1) = false := by rfl) :
    VE X ρ W (.Call (.Name x p) (e1 :: es) [] pos) (mCal f ms) := PE.imp (pe_callTy hc hg hm hb ha hn hdb he hpl) fun _ _ _ h => tcb_ok hv h

/-! ### len, int, list, tuple, max, min, abs, sum -/
theorem repL1 {F : Hp} {vs : List V} {d : D} (r : RepL K F vs [d]) : ∃ v, vs = [v] ∧ RepD K F v d := by
  cases r with
  | cons h t => cases t; exact ⟨_, rfl, h⟩
theorem repL2 {F : Hp} {vs : List V} {d e : D} (r : RepL K F vs [d, e]) : ∃ v w, vs = [v, w] ∧ RepD K F v d ∧ RepD K F w e := by
  cases r with
  | cons h t =>
    obtain ⟨w, rfl, h2⟩ := repL1 t
    exact ⟨_, _, rfl, h, h2⟩
def lenD : D → Option Int
  | .tup l => some l.length
  | .lst l => some l.length
  | .scr l => some l.length
  | .str s => if s.length ≤ sizeLine then some s.length else none
  | _ => none
def fnLen : List D → Option Sl
  | [d] => (match lenD d with
    | some n => some (.fr (.int n))
    | none => none)
  | _ => none
theorem lenV_ok {F H : Hp} {v : V} {d : D} {n : Int} (r : RepH K F H v d) (s : HSub F H) (e : lenD d = some n) : ∃ k : Nat, n = k ∧ LenV K v H k := by
  unfold lenD at e
  split at e
  · cases e
    cases r with
    | fr r => cases r with
      | tup h l => exact ⟨_, rfl, .inr ⟨_, sqT_mono s h, l.length.symm⟩⟩
  · cases e
    cases r with
    | fr r => cases r with
      | lst h l => exact ⟨_, rfl, .inl ⟨_, SqL.of (s _ _ h), l.length.symm⟩⟩
    | lst h l => exact ⟨_, rfl, .inl ⟨_, SqL.of h, l.length.symm⟩⟩
  · cases e
    cases r with
    | fr r => cases r with
      | scr h l => exact ⟨_, rfl, .inl ⟨_, sqL_mono s h, l.length.symm⟩⟩
  · split at e
    · rename_i hz
      cases e
      cases r with
      | fr r => cases r; exact ⟨_, rfl, hz, rfl⟩
    · cases e
  · cases e
abbrev rLenA (K : PySem.W.Frag) : List V → Hp → VK → Prop := fun xs H Q => ∃ x n, xs = [x] ∧ LenV K x H n ∧ Q (.int n) H
theorem cv_len : CallV X (rLenA X.K) fnLen := by
  intro ρ F H σ a os vs ds d Q R r e q
  unfold fnLen at e
  split at e
  · split at e
    · rename_i d0 n z
      cases e
      obtain ⟨v, rfl, rv⟩ := repL1 r
      obtain ⟨k, rfl, h⟩ := lenV_ok (.fr rv) R.sub z
      exact ⟨v, k, rfl, h, q F _ H os (R.put (.int _)) Fm.refl⟩
    · cases e
  · cases e
theorem ve_len (hg : Gl X "len") (hm : X.mg "len" = none) (ha : VD X ρ W e1 mA) (he : starEach [e1] X.env = (false, eval e1 X.env) :: starEach [] X.env := by rfl) (hpl : (backTo pos (starEach [] X.env)).any (·.1) = false := by rfl) :
    VE X ρ W (.Call (.Name "len" p) [e1] [] pos) (mCal fnLen (mCons mA mNil)) := ve_callB call_len cv_len hg hm PySem.boot_len (va_cons ha va_nil he) (by decide) (by decide) he hpl
/-- len of a name's object -/
def mLenV (i : Nat) : M Sl := bnd (mView i) fun x => lift (fnLen [x])
theorem ve_lenV (i : Nat) (hg : Gl X "len") (hm : X.mg "len" = none) (hn : PE X e1 (tVar i)) (he : starEach [e1] X.env = (false, eval e1 X.env) :: starEach [] X.env := by rfl) (hpl : (backTo pos (starEach [] X.env)).any (·.1) = false := by rfl) :
    VE X ρ W (.Call (.Name "len" p) [e1] [] pos) (mLenV i) := PE.imp (pe_callB call_len hg hm PySem.boot_len (pa_cons hn pa_nil he) (by decide) (by decide) he hpl) fun σ H Q ⟨F, a, os, o, R, e, q⟩ => by
  obtain ⟨d, v, e1, ev, h⟩ := view_bnd R e
  refine ⟨v, ev, ?_⟩
  unfold fnLen at e1
  cases z : lenD d with
  | none => simp [lift, z] at e1
  | some n =>
    simp [lift, z] at e1
    subst e1
    obtain ⟨k, rfl, h2⟩ := lenV_ok h R.sub z
    exact ⟨v, k, rfl, h2, q F _ H os (R.put (.int _)) Fm.refl⟩
def fnInt : List D → Option Sl
  | [.int i] => some (.fr (.int i))
  | [.bl b] => some (.fr (.int (if b then 1 else 0)))
  | _ => none
theorem cv_int : CallV X (fun xs H Q => (∃ i, xs = [.int i] ∧ Q (.int i) H) ∨ ∃ k, xs = [.bl k] ∧ Q (.int (if k then 1 else 0)) H) fnInt := by
  intro ρ F H σ a os vs ds d Q R r e q
  unfold fnInt at e
  split at e
  · cases e
    obtain ⟨v, rfl, rv⟩ := repL1 r
    cases rv
    exact .inl ⟨_, rfl, q F _ H os (R.put (.int _)) Fm.refl⟩
  · cases e
    obtain ⟨v, rfl, rv⟩ := repL1 r
    cases rv
    exact .inr ⟨_, rfl, q F _ H os (R.put (.int _)) Fm.refl⟩
  · cases e
theorem ve_int (hg : Gl X "int") (hm : X.mg "int" = none) (ha : VD X ρ W e1 mA) (he : starEach [e1] X.env = (false, eval e1 X.env) :: starEach [] X.env := by rfl) (hpl : (backTo pos (starEach [] X.env)).any (·.1) = false := by rfl) :
    VE X ρ W (.Call (.Name "int" p) [e1] [] pos) (mCal fnInt (mCons mA mNil)) := ve_callTy call_int1 cv_int hg hm (by decide +kernel) (va_cons ha va_nil he) (by decide) (by decide) he hpl
def fnList : List D → Option Sl
  | [.tup l] => some (.ow none (.lst l))
  | [.lst l] => some (.ow none (.lst l))
  | [.scr l] => some (.ow none (.lst l))
  | _ => none
theorem RepD.items {F H : Hp} {v : V} {d : D} {l : List D} (r : RepD K F v d) (s : HSub F H) (e : itemsD d = some l) : ∃ p vs, v = .ref p ∧ (SqL K H p vs ∨ SqT K H p vs) ∧ RepL K F vs l := (RepH.fr (H := H) r).items s e
theorem cv_list : CallV X (fun xs H Q => ∃ p ys, xs = [.ref p] ∧ (SqL X.K H p ys ∨ SqT X.K H p ys) ∧ ∀ l, H l = none → Q (.ref l) (upd H l (.lst ys))) fnList := by
  intro ρ F H σ a os vs ds d Q R r e q
  have fin : ∀ {y : D} {l : List D}, RepL X.K F vs [y] → itemsD y = some l → (∀ F' v H' os', Rep X.K ρ F' H' (some v :: σ) (.ow none (.lst l) :: a) os' → Fm F H os F' H' os' → Q v H') → ∃ p ys, vs = [.ref p] ∧ (SqL X.K H p ys ∨ SqT X.K H p ys) ∧ ∀ l, H l = none → Q (.ref l) (upd H l (.lst ys)) := fun {y l} r e q => by
    obtain ⟨v, rfl, rv⟩ := repL1 r
    obtain ⟨p, ys, rfl, h, rl⟩ := rv.items R.sub e
    refine ⟨p, ys, rfl, h, fun l np => ?_⟩
    obtain ⟨R', f⟩ := R.allocL np rl
    exact q _ _ _ _ R' f
  unfold fnList at e
  split at e
  · cases e; exact fin r rfl q
  · cases e; exact fin r rfl q
  · cases e; exact fin r rfl q
  · cases e
theorem ve_list (hg : Gl X "list") (hm : X.mg "list" = none) (ha : VD X ρ W e1 mA) (he : starEach [e1] X.env = (false, eval e1 X.env) :: starEach [] X.env := by rfl) (hpl : (backTo pos (starEach [] X.env)).any (·.1) = false := by rfl) :
    VE X ρ W (.Call (.Name "list" p) [e1] [] pos) (mCal fnList (mCons mA mNil)) := ve_callTy call_list_of cv_list hg hm (by decide +kernel) (va_cons ha va_nil he) (by decide) (by decide) he hpl
def fnTuple : List D → Option Sl
  | [.tup l] => some (.fr (.tup l))
  | [.lst l] => some (.fr (.tup l))
  | _ => none
theorem cv_tuple : CallV X (fun xs H Q => ∃ p ys, xs = [.ref p] ∧ ((SqL X.K H p ys ∧ ∀ l, H l = none → Q (.ref l) (upd H l (.tup ys))) ∨ (SqT X.K H p ys ∧ Q (.ref p) H))) fnTuple := by
  intro ρ F H σ a os vs ds d Q R r e q
  unfold fnTuple at e
  split at e
  · cases e
    obtain ⟨v, rfl, rv⟩ := repL1 r
    cases rv with
    | tup h l => exact ⟨_, _, rfl, .inr ⟨sqT_mono R.sub h, q F _ H os (R.put (.tup h l)) Fm.refl⟩⟩
  · cases e
    obtain ⟨v, rfl, rv⟩ := repL1 r
    cases rv with
    | lst h l =>
      refine ⟨_, _, rfl, .inl ⟨SqL.of (R.sub _ _ h), fun p np => ?_⟩⟩
      obtain ⟨R', f⟩ := R.alloc (o := .tup _) np
      exact q _ _ _ os (R'.put (.tup (SqT.of upd_same) (l.mono f.mono))) f
  · cases e
theorem ve_tuple (hg : Gl X "tuple") (hm : X.mg "tuple" = none) (ha : VD X ρ W e1 mA) (he : starEach [e1] X.env = (false, eval e1 X.env) :: starEach [] X.env := by rfl) (hpl : (backTo pos (starEach [] X.env)).any (·.1) = false := by rfl) :
    VE X ρ W (.Call (.Name "tuple" p) [e1] [] pos) (mCal fnTuple (mCons mA mNil)) := ve_callTy call_tuple_of cv_tuple hg hm (by decide +kernel) (va_cons ha va_nil he) (by decide) (by decide) he hpl
def fnMax2 : List D → Option Sl
  | [.int i, .int j] => some (.fr (.int (if j > i then j else i)))
  | _ => none
def fnMin2 : List D → Option Sl
  | [.int i, .int j] => some (.fr (.int (if j < i then j else i)))
  | _ => none
def fnAbs : List D → Option Sl
  | [.int i] => some (.fr (.int (if i < 0 then -i else i)))
  | _ => none
theorem cv_max2 : CallV X (fun xs H Q => ∃ i j, xs = [.int i, .int j] ∧ Q (.int (if j > i then j else i)) H) fnMax2 := by
  intro ρ F H σ a os vs ds d Q R r e q
  unfold fnMax2 at e
  split at e
  · cases e
    obtain ⟨v, w, rfl, r1, r2⟩ := repL2 r
    cases r1; cases r2
    exact ⟨_, _, rfl, q F _ H os (R.put (.int _)) Fm.refl⟩
  · cases e
theorem cv_min2 : CallV X (fun xs H Q => ∃ i j, xs = [.int i, .int j] ∧ Q (.int (if j < i then j else i)) H) fnMin2 := by
  intro ρ F H σ a os vs ds d Q R r e q
  unfold fnMin2 at e
  split at e
  · cases e
    obtain ⟨v, w, rfl, r1, r2⟩ := repL2 r
    cases r1; cases r2
    exact ⟨_, _, rfl, q F _ H os (R.put (.int _)) Fm.refl⟩
  · cases e
theorem cv_abs : CallV X (fun xs H Q => ∃ i, xs = [.int i] ∧ Q (.int (if i < 0 then -i else i)) H) fnAbs := by
  intro ρ F H σ a os vs ds d Q R r e q
  unfold fnAbs at e
  split at e
  · cases e
    obtain ⟨v, rfl, r1⟩ := repL1 r
    cases r1
    exact ⟨_, rfl, q F _ H os (R.put (.int _)) Fm.refl⟩
  · cases e
theorem ve_max2 (hc : X.calm = true) (hg : Gl X "max") (hm : X.mg "max" = none) (ha : VD X ρ W e1 mA) (hb : VD X ρ W e2 mB) (he : starEach [e1, e2] X.env = (false, eval e1 X.env) :: starEach [e2] X.env := by rfl) (he2 : starEach [e2] X.env = (false, eval e2 X.env) :: starEach [] X.env := by rfl) (hpl : (backTo pos (starEach [e2] X.env)).any (·.1) = false := by rfl) :
    VE X ρ W (.Call (.Name "max" p) [e1, e2] [] pos) (mCal fnMax2 (mCons mA (mCons mB mNil))) := ve_callB (call_max2 hc) cv_max2 hg hm (by decide +kernel) (va_cons ha (va_cons hb va_nil he2) he) (by decide) (by decide) he hpl
theorem ve_min2 (hc : X.calm = true) (hg : Gl X "min") (hm : X.mg "min" = none) (ha : VD X ρ W e1 mA) (hb : VD X ρ W e2 mB) (he : starEach [e1, e2] X.env = (false, eval e1 X.env) :: starEach [e2] X.env := by rfl) (he2 : starEach [e2] X.env = (false, eval e2 X.env) :: starEach [] X.env := by rfl) (hpl : (backTo pos (starEach [e2] X.env)).any (·.1) = false := by rfl) :
    VE X ρ W (.Call (.Name "min" p) [e1, e2] [] pos) (mCal fnMin2 (mCons mA (mCons mB mNil))) := ve_callB (call_min2 hc) cv_min2 hg hm (by decide +kernel) (va_cons ha (va_cons hb va_nil he2) he) (by decide) (by decide) he hpl
theorem ve_abs (hg : Gl X "abs") (hm : X.mg "abs" = none) (ha : VD X ρ W e1 mA) (he : starEach [e1] X.env = (false, eval e1 X.env) :: starEach [] X.env := by rfl) (hpl : (backTo pos (starEach [] X.env)).any (·.1) = false := by rfl) :
    VE X ρ W (.Call (.Name "abs" p) [e1] [] pos) (mCal fnAbs (mCons mA mNil)) := ve_callB call_abs cv_abs hg hm (by decide +kernel) (va_cons ha va_nil he) (by decide) (by decide) he hpl
def intsD : List D → Option (List Int)
  | [] => some []
  | .int i :: r => (match intsD r with
    | some l => some (i :: l)
    | none => none)
  | _ => none
theorem ints_ok {F : Hp} : ∀ {vs : List V} {ds : List D} {ns : List Int}, RepL K F vs ds → intsD ds = some ns → vs = ns.map V.int
  | _, _, _, .nil, e => by cases e; rfl
  | _, _, _, .cons (d := d) (ds := ds) h r, e => by
    cases d with
    | int i =>
      cases h
      simp only [intsD] at e
      split at e
      · rename_i l z
        cases e
        rw [List.map_cons, ints_ok r z]
      · cases e
    | _ => simp [intsD] at e
def fnSum : List D → Option Sl
  | [.lst l] => (match intsD l with
    | some ns => some (.fr (.int ns.sum))
    | none => none)
  | _ => none
theorem cv_sum : CallV X (rSum X.K) fnSum := by
  intro ρ F H σ a os vs ds d Q R r e q
  unfold fnSum at e
  split at e
  · split at e
    · rename_i l ns z
      cases e
      obtain ⟨v, rfl, r1⟩ := repL1 r
      cases r1 with
      | lst h rl =>
        have := ints_ok rl z
        subst this
        exact ⟨_, ns, rfl, SqL.of (R.sub _ _ h), q F _ H os (R.put (.int _)) Fm.refl⟩
    · cases e
  · cases e
theorem ve_sum (hc : X.calm = true) (hg : Gl X "sum") (hm : X.mg "sum" = none) (ha : VD X ρ W e1 mA) (he : starEach [e1] X.env = (false, eval e1 X.env) :: starEach [] X.env := by rfl) (hpl : (backTo pos (starEach [] X.env)).any (·.1) = false := by rfl) :
    VE X ρ W (.Call (.Name "sum" p) [e1] [] pos) (mCal fnSum (mCons mA mNil)) := ve_callB (cr_sum hc) cv_sum hg hm (by decide +kernel) (va_cons ha va_nil he) (by decide) (by decide) he hpl

/-! ### isinstance -/
/-- the name of a built-in class, as a value -/
theorem vd_ty {n : String} (hg : Gl X x) (hm : X.mg x = none) (hv : bootBuiltins x = some (.type n)) (hn : x ≠ "__name__" := by decide) (hd : (x == ("__debug__" : Str)) = false := by decide) : VD X ρ W (.Name x pos) (ret (.ty n)) :=
  vd_const (pe_bltn (v := .ty n) hg hm hv rfl hn hd) fun _ => .ty n
/-- isinstance by a built-in class: which data are -/
structure IsTy (n : String) (g : D → Option Bool) : Prop where
  run : ∀ d, ∃ t, (∀ b, g d = some b → kitB t n = some b) ∧ (∀ (K : PySem.W.Frag) (F H : Hp) (v : V), HSub F H → RepD K F v d → g d ≠ none → TyX K H v (.type t))
theorem tyx_tup {F H : Hp} {a : Addr} {vs : List V} (s : HSub F H) (h : SqT K F a vs) : TyX K H (.ref a) (.type "tuple") := by
  rcases sqT_mono s h with (h | ⟨o, h⟩) | ⟨o, its, n, h, c, _⟩
  · exact .base (.tup h)
  · exact .fTuple h
  · exact .kTuple h c
theorem tyx_lst {F H : Hp} {a : Addr} {vs : List V} (s : HSub F H) (h : SqL K F a vs) : TyX K H (.ref a) (.type "list") := by
  rcases sqL_mono s h with (h | ⟨o, h⟩) | ⟨o, its, n, h, c, _⟩
  · exact .base (.lst h)
  · exact .base (.frz h)
  · exact .kList h c
/-- a table: none, bool, int, str, tuple, list -/
def isTab (b0 b1 b2 b3 b4 b5 : Bool) : D → Option Bool
  | .non => some b0
  | .bl _ => some b1
  | .int _ => some b2
  | .str _ => some b3
  | .tup _ => some b4
  | .lst _ => some b5
  | .scr _ => some b5
  | _ => none
theorem isTab_ok {n : String} {b0 b1 b2 b3 b4 b5 : Bool} (h0 : kitB "NoneType" n = some b0) (h1 : kitB "bool" n = some b1) (h2 : kitB "int" n = some b2) (h3 : kitB "str" n = some b3) (h4 : kitB "tuple" n = some b4) (h5 : kitB "list" n = some b5) : IsTy n (isTab b0 b1 b2 b3 b4 b5) := by
  refine ⟨fun d => ?_⟩
  cases d with
  | non => exact ⟨_, fun b e => by cases e; exact h0, fun K F H v s r _ => by cases r; exact .base .non⟩
  | bl c => exact ⟨_, fun b e => by cases e; exact h1, fun K F H v s r _ => by cases r; exact .base (.bl _)⟩
  | int c => exact ⟨_, fun b e => by cases e; exact h2, fun K F H v s r _ => by cases r; exact .base (.int _)⟩
  | str c => exact ⟨_, fun b e => by cases e; exact h3, fun K F H v s r _ => by cases r; exact .base (.str _)⟩
  | tup l => exact ⟨_, fun b e => by cases e; exact h4, fun K F H v s r _ => by
      cases r with
      | tup h _ => exact tyx_tup s h⟩
  | lst l => exact ⟨_, fun b e => by cases e; exact h5, fun K F H v s r _ => by
      cases r with
      | lst h _ => exact tyx_lst s (SqL.of h)⟩
  | scr l => exact ⟨_, fun b e => by cases e; exact h5, fun K F H v s r _ => by
      cases r with
      | scr h _ => exact tyx_lst s h⟩
  | _ => exact ⟨"int", fun b e => by simp [isTab] at e, fun K F H v s r z => absurd rfl z⟩
def isIntD : D → Option Bool := isTab false true true false false false
def isBoolD : D → Option Bool := isTab false true false false false false
def isTupD : D → Option Bool := isTab false false false false true false
def isStrD : D → Option Bool := isTab false false false true false false
theorem ty_int : IsTy "int" isIntD := isTab_ok (by decide +kernel) (by decide +kernel) (by decide +kernel) (by decide +kernel) (by decide +kernel) (by decide +kernel)
theorem ty_bool : IsTy "bool" isBoolD := isTab_ok (by decide +kernel) (by decide +kernel) (by decide +kernel) (by decide +kernel) (by decide +kernel) (by decide +kernel)
theorem ty_tup : IsTy "tuple" isTupD := isTab_ok (by decide +kernel) (by decide +kernel) (by decide +kernel) (by decide +kernel) (by decide +kernel) (by decide +kernel)
theorem ty_str : IsTy "str" isStrD := isTab_ok (by decide +kernel) (by decide +kernel) (by decide +kernel) (by decide +kernel) (by decide +kernel) (by decide +kernel)
def mIs (g : D → Option Bool) (m : M D) : M D := m1 (fun d => match g d with
  | some b => some (.bl b)
  | none => none) m
/-- isinstance(e, T), T a built-in class by its name -/
theorem vd_is {n : String} {g : D → Option Bool} (T : IsTy n g) {px : Pos} (hg : Gl X "isinstance") (hm : X.mg "isinstance" = none) (hg2 : Gl X x) (hm2 : X.mg x = none) (hv2 : bootBuiltins x = some (.type n)) (ha : VD X ρ W e1 mA)
    (hn : x ≠ "__name__" := by decide) (hd : (x == ("__debug__" : Str)) = false := by decide) (he : starEach [e1, .Name x px] X.env = (false, eval e1 X.env) :: starEach [.Name x px] X.env := by rfl) (he2 : starEach [.Name x px] X.env = (false, eval (.Name x px) X.env) :: starEach [] X.env := by rfl)
    (hpl : (backTo pos (starEach [.Name x px] X.env)).any (·.1) = false := by rfl) : VD X ρ W (.Call (.Name "isinstance" p) [e1, .Name x px] [] pos) (mIs g mA) :=
  PE.imp (pe_callB call_isi hg hm (by decide +kernel) (pa_cons ha (pa_cons (pe_bltn (v := .ty n) hg2 hm2 hv2 rfl hn hd) pa_nil he2) he) (by decide) (by decide) he hpl) fun σ H Q ⟨F, a, os, o, R, e, q⟩ => by
    refine tD.bind R e (fun x a' z => by subst z; exact q) fun y a2 F2 v2 H2 o2 e2 r2 R2 f2 => ?_
    cases z : g y with
    | none => simp [lift, z] at e2
    | some b =>
      simp [lift, z] at e2
      subst e2
      obtain ⟨t, h1, h2⟩ := T.run y
      exact ⟨v2, _, .type t, .type n, b, rfl, .ty n, h2 X.K F2 H2 v2 R2.sub r2 (by rw [z]; simp), kit_ty (h1 b z), q F2 _ H2 o2 (.bl b) R2 f2⟩

/-! ### repr -/
mutual
def szD : D → Nat
  | .tup l => szDs l + 1
  | .lst l => szDs l + 1
  | .str s => s.cps.size + 1
  | _ => 1
def szDs : List D → Nat
  | [] => 0
  | d :: ds => szD d + szDs ds
end
/-- what is shown without trouble: data, ints of at most 1,900 bits, not too great -/
def showD (d : D) : Option Str := match d.py with
  | some p => if p.showable = true ∧ p.depth ≤ 60 ∧ p.shown.length ≤ sizeLine ∧ p.hasDict = false then some p.shown else none
  | none => none
def fnRepr : List D → Option Sl
  | [d] => (match showD d with
    | some s => some (.fr (.str s))
    | none => none)
  | _ => none
def rRepr (K : PySem.W.Frag) : List V → Hp → VK → Prop := fun xs H Q => ∃ x p, xs = [x] ∧ Dp K H x p ∧ p.showable = true ∧ p.depth ≤ 60 ∧ p.shown.length ≤ sizeLine ∧ p.hasDict = false ∧ Q (.str p.shown) H
theorem call_reprD (hg : X.A.guards = some []) (hu : X.A.units + 64 < cLine) : CallR X (.builtin "repr") (rRepr X.K) := by
  intro pins s σ H vs us Q I r h
  obtain ⟨x, d, rfl, hd, h1, h2, h3, h4, q⟩ := h
  obtain ⟨u, rfl, ru⟩ := vals1 r
  obtain ⟨as, rd⟩ := Dp.reads I d x u hd ru
  cases rd with
  | none => exact PySem.P.repr_of_none ⟨.str _, H, I.tok _, ⟨_, rfl⟩, q⟩
  | bool b => exact PySem.P.repr_of_bool ⟨.str _, H, I.tok _, ⟨_, rfl⟩, by cases b <;> exact q⟩
  | int i t =>
    simp only [PyData.showable, decide_eq_true_eq] at h1
    exact PySem.P.repr_of_int h1 ⟨.str _, H, I.tok _, ⟨_, rfl⟩, q⟩
  | str y t => exact PySem.P.repr_of_str ⟨.str _, H, I.tok _, ⟨_, rfl⟩, q⟩ h3
  | list a1 a2 a3 a4 =>
    refine repr_of_reads' (.list a1 a2 a3 a4) h1 (fun z => by rw [h4] at z; cases z) hg (by omega) (fun _ _ e => e) (fun h' u tk hk => ?_) h3
    exact ⟨.str _, H, I.kept hk, ⟨_, rfl⟩, q⟩
  | tuple a1 a2 a3 a4 =>
    refine repr_of_reads' (.tuple a1 a2 a3 a4) h1 (fun z => by rw [h4] at z; cases z) hg (by omega) (fun _ _ e => e) (fun h' u tk hk => ?_) h3
    exact ⟨.str _, H, I.kept hk, ⟨_, rfl⟩, q⟩
  | dict _ _ _ _ _ => cases h4
theorem cv_repr : CallV X (rRepr X.K) fnRepr := by
  intro ρ F H σ a os vs ds d Q R r e q
  unfold fnRepr at e
  split at e
  · split at e
    · rename_i d0 s z
      cases e
      unfold showD at z
      split at z
      · rename_i pp z2
        split at z
        · rename_i hz
          cases z
          obtain ⟨v, rfl, r1⟩ := repL1 r
          exact ⟨v, pp, rfl, r1.dp R.sub z2, hz.1, hz.2.1, hz.2.2.1, hz.2.2.2, q F _ H os (R.put (.str _)) Fm.refl⟩
        · cases z
      · cases z
    · cases e
  · cases e
theorem ve_repr (hgd : X.A.guards = some []) (hu : X.A.units + 64 < cLine) (hg : Gl X "repr") (hm : X.mg "repr" = none) (ha : VD X ρ W e1 mA) (he : starEach [e1] X.env = (false, eval e1 X.env) :: starEach [] X.env := by rfl) (hpl : (backTo pos (starEach [] X.env)).any (·.1) = false := by rfl) :
    VE X ρ W (.Call (.Name "repr" p) [e1] [] pos) (mCal fnRepr (mCons mA mNil)) := ve_callB (call_reprD hgd hu) cv_repr hg hm (by decide +kernel) (va_cons ha va_nil he) (by decide) (by decide) he hpl
end
end L3
end
section
namespace L3
open PySem PySem.Spec PyProof.Rows L2
section
variable {X : Cx} {ρ : Nat → Addr} {W : WX} {K : PySem.W.Frag} {e1 e2 e3 : Expr} {mA mB mC : M D} {ms : M Sl} {es : List Expr} {pos p : Pos} {x : Str} {D' : Ends} {mo mo2 : M Out} {st : Stmt} {rest b1 b2 : List Stmt}

theorem endOf.step {F H F1 H1 : Hp} {os o1 : List Addr} {o : Er Out} (h : endOf K ρ W D' F H os o) (f : Fm F H os F1 H1 o1) : endOf K ρ W D' F1 H1 o1 o := by
  cases o with
  | ok r a' =>
    cases r with
    | nx => exact fun F' σ' H' os' R g => h F' σ' H' os' R (f.trans g)
    | bk => exact fun F' σ' H' os' R g => h F' σ' H' os' R (f.trans g)
    | ct => exact fun F' σ' H' os' R g => h F' σ' H' os' R (f.trans g)
    | rt r => exact fun F' v σ' H' os' R g => h F' v σ' H' os' R (f.trans g)
  | ex x a' => exact fun F' σ' H' os' c d R g r => h F' σ' H' os' c d R (f.trans g) r
theorem endOf.ex {F H : Hp} {os : List Addr} {x : Ex} {a' : AS} {σ : L2.St} (h : endOf K ρ W D' F H os (.ex x a')) : exOf K ρ W F H os x a' σ := fun F' H' os' c d R g r => h F' σ H' os' c d R g r

/-! ### stores -/
theorem perm_nodup {α : Type} {a b : List α} (h : a.Perm b) (n : a.Nodup) : b.Nodup := (List.Perm.nodup_iff h).mp n
theorem Rep.store {F H : Hp} {σ : L2.St} {a : AS} {os : List Addr} {v : Option V} {s : Sl} {i : Nat} (R : Rep K ρ F H (v :: σ) (s :: a) os) (hi : i < a.length) : ∃ os', Rep K ρ F H (σ.set i v) (a.set i s) os' ∧ Fm F H os F H os' := by
  obtain ⟨o1, o2, rfl, h, R2, f⟩ := R.tail
  obtain ⟨w, p1, pi, p2, e1, e2, h1, h2⟩ := R2.sl.zip (i := i) (s := a[i]) (by simp [hi])
  subst e2
  have nd := R.nd
  have hp : (p1 ++ o1 ++ p2 ++ pi).Perm (o1 ++ (p1 ++ pi ++ p2)) := by
    have q1 : (p1 ++ o1 ++ p2 ++ pi).Perm (o1 ++ p1 ++ p2 ++ pi) := List.Perm.append_right _ (List.Perm.append_right _ List.perm_append_comm)
    have q2 : (p2 ++ pi).Perm (pi ++ p2) := List.perm_append_comm
    refine q1.trans ?_
    simp only [List.append_assoc]
    exact List.Perm.append_left _ (List.Perm.append_left _ q2)
  have nd2 := perm_nodup hp.symm nd
  refine ⟨p1 ++ o1 ++ p2, ⟨R.sub, h2 F H v s o1 (fun _ _ e => e) (fun _ _ => rfl) h, (List.nodup_append.mp nd2).1, fun p hp => R.nf p ?_⟩, ⟨fun _ _ e => e, fun _ _ e _ => e, fun p hp => .inl ?_, fun _ h h' => absurd h h', fun _ h => h⟩⟩ <;>
    · simp only [List.mem_append] at hp ⊢
      rcases hp with (hp | hp) | hp <;> simp [hp]
def mPut (i : Nat) (s : Sl) : M Out := fun a => if i < a.length then some (.ok .nx (a.set i s)) else none
def mSet (i : Nat) (m : M Sl) : M Out := bnd m fun s => mPut i s
theorem vs_set {i : Nat} {pos' : Pos} (hN : X.N.Nodup) (hi : X.N[i]? = some x) (hx : Loc X.env.scope x) (he : VE X ρ W e1 ms) (hs : swapsWith e1 (some (.Name x pos')) pos.line X.env = pure false := by rfl) (hf : X.fn x = true ∨ X.env.scope.names.lookup x = some .local := by first | exact .inl rfl | exact .inr rfl | assumption) :
    VS X ρ W (.Assign [.Name x pos'] e1 pos) (mSet i ms) := PS.imp (ps_set hN hi hx he hs hf) fun D σ H ⟨F, a, os, o, R, e, q⟩ => by
  refine tE.bind R e (fun x a' z => by subst z; exact q.ex) fun s a1 F1 v H1 o1 e1 R1 f1 => ?_
  unfold mPut at e1
  split at e1
  · rename_i hi
    cases e1
    obtain ⟨os', R', f⟩ := R1.store hi
    exact q F1 _ H1 os' R' (f1.trans f)
  · cases e1
def mDrop (m : M Sl) : M Out := bnd m fun _ => ret .nx
theorem vs_expr (he : VE X ρ W e1 ms) (hs : swapsWith e1 none pos.line X.env = pure false := by rfl) : VS X ρ W (.Expr e1 pos) (mDrop ms) := PS.imp (ps_expr he hs) fun D σ H ⟨F, a, os, o, R, e, q⟩ => by
  refine tE.bind R e (fun x a' z => by subst z; exact q.ex) fun s a1 F1 v H1 o1 e1 R1 f1 => ?_
  simp [ret] at e1
  subst e1
  obtain ⟨_, o2, rfl, _, R2, f2⟩ := R1.tail
  exact q F1 σ H1 o2 R2 (f1.trans f2)
def mRet (m : M Sl) : M Out := bnd m fun s => ret (.rt s)
theorem vs_ret (he : VE X ρ W e1 ms) : VS X ρ W (.Return (some e1) pos) (mRet ms) := PS.imp (ps_ret he) fun D σ H ⟨F, a, os, o, R, e, q⟩ => by
  refine tE.bind R e (fun x a' z => by subst z; exact q.ex) fun s a1 F1 v H1 o1 e1 R1 f1 => ?_
  simp [ret] at e1
  subst e1
  exact q F1 v σ H1 o1 R1 f1
theorem vs_retN : VS X ρ W (.Return none pos) (ret (.rt (.fr .non))) := PS.imp ps_retN fun D σ H ⟨F, a, os, o, R, e, q⟩ => by
  simp [ret] at e
  subst e
  exact q F .non σ H os (R.put .non) Fm.refl
theorem vs_pass : VS X ρ W (.Pass pos) (ret .nx) := PS.imp ps_pass fun D σ H ⟨F, a, os, o, R, e, q⟩ => by
  simp [ret] at e
  subst e
  exact q F σ H os R Fm.refl
theorem vs_break : VS X ρ W (.Break pos) (ret .bk) := PS.imp ps_break fun D σ H ⟨F, a, os, o, R, e, q⟩ => by
  simp [ret] at e
  subst e
  exact q F σ H os R Fm.refl
theorem vs_continue : VS X ρ W (.Continue pos) (ret .ct) := PS.imp ps_continue fun D σ H ⟨F, a, os, o, R, e, q⟩ => by
  simp [ret] at e
  subst e
  exact q F σ H os R Fm.refl
/-- code that is never reached -/
theorem vs_never : VS X ρ W st (fun _ => none) := PS.imp ps_never fun D σ H ⟨F, a, os, o, R, e, q⟩ => by cases e
theorem vss_never : VSs X ρ W rest (fun _ => none) := PSs.imp pss_never fun D σ H ⟨F, a, os, o, R, e, q⟩ => by cases e
/-- return x: what x owns goes out -/
def mMove (i : Nat) : M Sl := fun a => match a[i]? with
  | some (.fr d) => some (.ok (.fr d) a)
  | some (.ow none o) => some (.ok (.ow none o) (a.set i .un))
  | _ => none
theorem ve_move {i : Nat} (h : PE X e1 (tVar i)) : VE X ρ W e1 (mMove i) := PE.imp h fun σ H Q ⟨F, a, os, o, R, e, q⟩ => by
  unfold mMove at e
  cases z : a[i]? with
  | none => rw [z] at e; cases e
  | some s =>
    rw [z] at e
    obtain ⟨v, o1, oi, o2, e1, e2, h1, h2⟩ := R.sl.zip z
    cases h1 with
    | un => cases e
    | fr h => cases e; exact ⟨_, e1, q F _ H os (R.put h) Fm.refl⟩
    | ow h t =>
      rename_i p ob t'
      cases t' with
      | some k => cases e
      | none =>
        cases e
        subst e2
        have s2 := h2 F H (some (.ref p)) .un [] (fun _ _ e => e) (fun _ _ => rfl) .un
        rw [set_same e1] at s2
        have hp : (oi ++ (o1 ++ [] ++ o2)).Perm (o1 ++ oi ++ o2) := by
          rw [List.append_nil, ← List.append_assoc]
          exact List.Perm.append_right _ List.perm_append_comm
        refine ⟨_, e1, q F _ H (oi ++ (o1 ++ [] ++ o2)) ⟨R.sub, .cons (.ow h fun k z => by cases z) s2, perm_nodup hp.symm R.nd, fun p hq => R.nf p (hp.mem_iff.mp hq)⟩ ⟨fun _ _ e => e, fun _ _ e _ => e, fun p hq => .inl (hp.mem_iff.mp hq), fun _ h h' => absurd h h', fun _ h => h⟩⟩

/-! ### blocks, if -/
def mSeq (m1 m2 : M Out) : M Out := fun a => match m1 a with
  | some (.ok .nx a1) => m2 a1
  | r => r
theorem vss_nil : VSs X ρ W [] (ret .nx) := PSs.imp pss_nil fun D σ H ⟨F, a, os, o, R, e, q⟩ => by
  simp [ret] at e
  subst e
  exact q F σ H os R Fm.refl
theorem vss_one (h : VS X ρ W st mo) : VSs X ρ W [st] mo := pss_one h
theorem vss_cons (h1 : VS X ρ W st mo) (h2 : VSs X ρ W rest mo2) : VSs X ρ W (st :: rest) (mSeq mo mo2) := PSs.imp (pss_cons h1 h2) fun D σ H ⟨F, a, os, o, R, e, q⟩ => by
  unfold mSeq at e
  cases z : mo a with
  | none => rw [z] at e; cases e
  | some o' =>
    rw [z] at e
    refine ⟨F, a, os, o', R, z, ?_⟩
    cases o' with
    | ok r a' =>
      cases r with
      | nx => exact fun F' σ' H' os' R' f => ⟨F', a', os', o, R', e, q.step f⟩
      | bk => cases e; exact q
      | ct => cases e; exact q
      | rt r => cases e; exact q
    | ex x a' => cases e; exact q
def mIf (t : M Bool) (m1 m2 : M Out) : M Out := bnd t fun c => if c = true then m1 else m2
theorem vs_if {tA : M Bool} (hc : VT X ρ W e1 tA) (ha : VSs X ρ W b1 mo) (hb : VSs X ρ W b2 mo2) : VS X ρ W (.If e1 b1 b2 pos) (mIf tA mo mo2) := PS.imp (ps_if hc ha hb) fun D σ H ⟨F, a, os, o, R, e, q⟩ => by
  refine tT.bind R e (fun x a' z => by subst z; exact q.ex) fun c a1 F1 H1 o1 e1 R1 f1 => ?_
  cases c with
  | true => exact iteT ⟨F1, a1, o1, o, R1, by simpa using e1, q.step f1⟩
  | false => exact iteF ⟨F1, a1, o1, o, R1, by simpa using e1, q.step f1⟩

/-! ### while -/
def whileM (t : M Bool) (b : M Out) : Nat → M Out
  | 0 => fun _ => none
  | n + 1 => bnd t fun c => if c = true then (fun a => match b a with
    | some (.ok .nx a1) => whileM t b n a1
    | some (.ok .ct a1) => whileM t b n a1
    | some (.ok .bk a1) => some (.ok .nx a1)
    | r => r) else ret .nx
theorem vs_while {tA : M Bool} (n : Nat) (hp : PassesOwn (model X.prog X.w) X.A X.env X.xe) (hc : VT X ρ W e1 tA) (hb : VSs X ρ W b1 mo) : VS X ρ W (.While e1 b1 [] pos) (whileM tA mo n) := PS.imp (ps_while hp hc hb) fun D σ H ⟨F, a, os, o, R, e, q⟩ => by
  refine ⟨fun m σ H => ∃ F a os, Rep X.K ρ F H σ a os ∧ whileM tA mo m a = some o ∧ endOf X.K ρ W D F H os o, ⟨n, F, a, os, R, e, q⟩, ?_⟩
  rintro m σ H ⟨F, a, os, R, e, q⟩
  cases m with
  | zero => cases e
  | succ m =>
    refine tT.bind R e (fun x a' z => by subst z; exact q.ex) fun c a1 F1 H1 o1 e1 R1 f1 => ?_
    cases c with
    | false =>
      simp [ret] at e1
      subst e1
      exact iteF (q F1 σ H1 o1 R1 f1)
    | true =>
      refine iteT ⟨fun σ' H' => ∃ F a os, Rep X.K ρ F H' σ' a os ∧ whileM tA mo m a = some o ∧ endOf X.K ρ W D F H' os o, fun σ' H' h => ⟨m, Nat.lt_succ_self _, h⟩, ?_⟩
      rw [if_pos rfl] at e1
      cases z : mo a1 with
      | none => rw [z] at e1; cases e1
      | some o' =>
        rw [z] at e1
        refine ⟨F1, a1, o1, o', R1, z, ?_⟩
        have q1 := q.step f1
        cases o' with
        | ok r a' =>
          cases r with
          | nx => exact fun F' σ' H' os' R' f => ⟨F', a', os', R', e1, q1.step f⟩
          | ct => exact fun F' σ' H' os' R' f => ⟨F', a', os', R', e1, q1.step f⟩
          | bk => cases e1; exact fun F' σ' H' os' R' f => q1 F' σ' H' os' R' f
          | rt r => cases e1; exact q1
        | ex x a' => cases e1; exact q1

/-! ### targets -/
abbrev MG := D → AS → Option AS
def tGt (K : PySem.W.Frag) (ρ : Nat → Addr) (g : MG) : TG := fun v σ H Q => ∃ F a os d a', Rep K ρ F H σ a os ∧ RepD K F v d ∧ g d a = some a' ∧ ∀ F' σ' H' os', Rep K ρ F' H' σ' a' os' → Fm F H os F' H' os' → Q σ' H'
abbrev VG (X : Cx) (ρ : Nat → Addr) (e : Expr) (g : MG) : Prop := PG X e (tGt X.K ρ g)
def tGs (K : PySem.W.Frag) (ρ : Nat → Addr) (g : List D → AS → Option AS) : TGs := fun vs σ H Q => ∃ F a os d a', Rep K ρ F H σ a os ∧ RepL K F vs d ∧ g d a = some a' ∧ ∀ F' σ' H' os', Rep K ρ F' H' σ' a' os' → Fm F H os F' H' os' → Q σ' H'
abbrev VGs (X : Cx) (ρ : Nat → Addr) (e : List Expr) (g : List D → AS → Option AS) : Prop := PGs X e (tGs X.K ρ g)
theorem PG.imp {e : Expr} {t t' : TG} (h : PG X e t) (i : ∀ v σ H Q, t' v σ H Q → t v σ H Q) : PG X e t' := ⟨fun pins s σ H v u Q I r q => h.run pins s σ H v u Q I r (i _ _ _ _ q)⟩
theorem PGs.imp {e : List Expr} {t t' : TGs} (h : PGs X e t) (i : ∀ v σ H Q, t' v σ H Q → t v σ H Q) : PGs X e t' := ⟨fun pins s σ H v u Q I r q => h.run pins s σ H v u Q I r (i _ _ _ _ q)⟩
def gNm (i : Nat) : MG := fun d a => if i < a.length then some (a.set i (.fr d)) else none
theorem vg_name {i : Nat} (hN : X.N.Nodup) (hi : X.N[i]? = some x) (hx : Loc X.env.scope x) (hf : X.fn x = true ∨ X.env.scope.names.lookup x = some .local := by first | exact .inl rfl | exact .inr rfl | assumption) : VG X ρ (.Name x pos) (gNm i) := PG.imp (pg_name hN hi hx hf) fun v σ H Q ⟨F, a, os, d, a', R, r, e, q⟩ => by
  unfold gNm at e
  split at e
  · rename_i hl
    cases e
    obtain ⟨os', R', f⟩ := (R.put r).store hl
    exact q F _ H os' R' f
  · cases e
def gNilD : List D → AS → Option AS := fun l a => match l with
  | [] => some a
  | _ => none
def gConsD (g : MG) (r : List D → AS → Option AS) : List D → AS → Option AS := fun l a => match l with
  | d :: ds => (match g d a with
    | some a1 => r ds a1
    | none => none)
  | [] => none
theorem vgs_nil : VGs X ρ [] gNilD := PGs.imp pgs_nil fun v σ H Q ⟨F, a, os, d, a', R, r, e, q⟩ => by
  unfold gNilD at e
  split at e
  · cases e
    cases r
    exact ⟨rfl, q F σ H os R Fm.refl⟩
  · cases e
theorem vgs_cons {g : MG} {r : List D → AS → Option AS} (h1 : VG X ρ e1 g) (h2 : VGs X ρ es r) (hs : (assignEach (e1 :: es) X.env).map (·.2) = assign e1 X.env :: (assignEach es X.env).map (·.2) := by rfl) : VGs X ρ (e1 :: es) (gConsD g r) := PGs.imp (pgs_cons h1 h2 hs) fun v σ H Q ⟨F, a, os, d, a', R, rl, e, q⟩ => by
  unfold gConsD at e
  split at e
  · rename_i d0 ds
    split at e
    · rename_i a1 z
      cases rl with
      | cons h t =>
        refine ⟨_, _, rfl, F, a, os, d0, a1, R, h, z, fun F1 σ1 H1 o1 R1 f1 => ?_⟩
        exact ⟨F1, a1, o1, ds, a', R1, t.mono f1.mono, e, fun F' σ' H' os' R' f' => q F' σ' H' os' R' (f1.trans f')⟩
    · cases e
  · cases e
def gTp (n : Nat) (g : List D → AS → Option AS) : MG := fun d a => match d with
  | .tup l => if l.length = n then g l a else none
  | _ => none
theorem vg_tup {k : Nat} {g : List D → AS → Option AS} {n : Nat} (hc : X.calm = true) (h : VGs X ρ es g) (hn : (assignEach es X.env).length = n := by rfl) (hst : (assignEach es X.env).findIdx? (·.1) = none := by rfl) : VG X ρ (.Tuple es k pos) (gTp n g) := PG.imp (pg_tup hc h hn hst) fun v σ H Q ⟨F, a, os, d, a', R, r, e, q⟩ => by
  unfold gTp at e
  split at e
  · split at e
    · rename_i hl
      cases r with
      | tup h l => exact ⟨_, _, rfl, sqT_mono R.sub h, by rw [l.length]; exact hl, F, a, os, _, a', R, l, e, q⟩
    · cases e
  · cases e
/-- target = e, e frozen -/
def mAsg (g : MG) (m : M D) : M Out := bnd m fun d => fun a => match g d a with
  | some a' => some (.ok .nx a')
  | none => none
theorem vs_asg {tg : Expr} {g : MG} (he : VD X ρ W e1 mA) (hg : VG X ρ tg g) (hs : swapsWithSole [tg] e1 pos.line X.env = pure false := by rfl) (hw : swappedStores [tg] e1 X.env = pure none := by rfl)
    (h1 : (assignEach [tg] X.env).map (·.2) = [assign tg X.env] := by rfl) : VS X ρ W (.Assign [tg] e1 pos) (mAsg g mA) := PS.imp (ps_asg he hg hs hw h1) fun D σ H ⟨F, a, os, o, R, e, q⟩ => by
  refine tD.bind R e (fun x a' z => by subst z; exact q.ex) fun d a1 F1 v H1 o1 e1 r1 R1 f1 => ?_
  split at e1
  · rename_i a' z
    cases e1
    exact ⟨F1, a1, o1, d, a', R1, r1, z, fun F' σ' H' os' R' f' => q F' σ' H' os' R' (f1.trans f')⟩
  · cases e1
end
end L3
end
section
namespace L3
open PySem PySem.Spec PyProof.Rows L2
section
variable {X : Cx} {ρ : Nat → Addr} {W : WX} {K : PySem.W.Frag} {e1 e2 e3 tg iter : Expr} {mA mB mC : M D} {ms : M Sl} {es : List Expr} {pos p : Pos} {x : Str} {mo mo2 : M Out} {b1 b2 : List Stmt}

/-! ### what is walked -/
structure ItOk (K : PySem.W.Frag) (J : It) (F : Hp) (xs : List D) : Prop where
  go : ∀ H i, HSub F H → i < xs.length → J.go i H
  stop : ∀ H, HSub F H → J.stop xs.length H
  yld : ∀ H i x H' d, HSub F H → J.yld i H x H' → xs[i]? = some d → (H' = H ∧ RepD K F x d) ∨ ∃ T vs l, H T = none ∧ x = .ref T ∧ H' = upd H T (.tup vs) ∧ d = .tup l ∧ RepL K F vs l
theorem ItOk.mono {J : It} {F F' : Hp} {xs : List D} (h : ItOk K J F xs) (s : HSub F F') : ItOk K J F' xs :=
  ⟨fun H i q => h.go H i fun p o e => q p o (s p o e), fun H q => h.stop H fun p o e => q p o (s p o e), fun H i x H' d q y e => by
    rcases h.yld H i x H' d (fun p o e => q p o (s p o e)) y e with ⟨e1, r⟩ | ⟨T, vs, l, n, e1, e2, e3, r⟩
    · exact .inl ⟨e1, r.mono s⟩
    · exact .inr ⟨T, vs, l, n, e1, e2, e3, r.mono s⟩⟩
def tI (K : PySem.W.Frag) (ρ : Nat → Addr) (W : WX) (m : M (List D)) : TI := fun σ H R => ∃ F a os o, Rep K ρ F H σ a os ∧ m a = some o ∧ match o with
  | .ok xs a' => ∀ F' H' os' J, Rep K ρ F' H' σ a' os' → Fm F H os F' H' os' → ItOk K J F' xs → R J H'
  | .ex x a' => exOf K ρ W F H os x a' σ
abbrev VI (X : Cx) (ρ : Nat → Addr) (W : WX) (tg iter : Expr) (m : M (List D)) : Prop := PI X tg iter (tI X.K ρ W m)
theorem PI.imp {t t' : TI} (h : PI X tg iter t) (i : ∀ σ H R, t' σ H R → t σ H R) : PI X tg iter t' := ⟨fun pins s σ H R I q => h.run pins s σ H R I (i σ H R q)⟩
theorem PI.or {t t' : TI} (h : PI X tg iter t) (h' : PI X tg iter t') : PI X tg iter (fun σ H R => t σ H R ∨ t' σ H R) := ⟨fun pins s σ H R I q => q.elim (h.run pins s σ H R I) (h'.run pins s σ H R I)⟩
theorem itok_listS {F : Hp} {a : Addr} {vs : List V} {l : List D} (h : SqL K F a vs) (r : RepL K F vs l) : ItOk K (Itl K a) F l :=
  ⟨fun H i s hi => by
      obtain ⟨v, e, _⟩ := r.get (i := i) (d := l[i]) (by simp [hi])
      exact ⟨vs, v, sqL_mono s h, e⟩, fun H s => ⟨vs, sqL_mono s h, by rw [r.length]; exact Nat.le_refl _⟩, fun H i x H' d s y e => by
      obtain ⟨v, e1, rd⟩ := r.get e
      have := y.2 vs (sqL_mono s h)
      rw [e1] at this
      cases this
      exact .inl ⟨y.1, rd⟩⟩
theorem itok_tup {F : Hp} {a : Addr} {vs : List V} {l : List D} (h : SqT K F a vs) (r : RepL K F vs l) : ItOk K (Itt K a) F l :=
  ⟨fun H i s hi => by
      obtain ⟨v, e, _⟩ := r.get (i := i) (d := l[i]) (by simp [hi])
      exact ⟨vs, v, sqT_mono s h, e⟩, fun H s => ⟨vs, sqT_mono s h, by rw [r.length]; exact Nat.le_refl _⟩, fun H i x H' d s y e => by
      obtain ⟨v, e1, rd⟩ := r.get e
      have := y.2 vs (sqT_mono s h)
      rw [e1] at this
      cases this
      exact .inl ⟨y.1, rd⟩⟩
def mItems (m : M D) : M (List D) := m1 itemsD m
theorem vi_seq (h : VD X ρ W iter mA) : VI X ρ W tg iter (mItems mA) := PI.imp (PI.or (pi_list h) (pi_tup h)) fun σ H R ⟨F, a, os, o, Rp, e, q⟩ => by
  cases z : mA a with
  | none => simp [mItems, m1, bnd, z] at e
  | some o' =>
    cases o' with
    | ex x a' =>
      simp [mItems, m1, bnd, z] at e
      subst e
      exact .inl ⟨F, a, os, _, Rp, z, q⟩
    | ok d a1 =>
      cases zi : itemsD d with
      | none => simp [mItems, m1, bnd, z, lift, zi] at e
      | some l =>
        simp [mItems, m1, bnd, z, lift, zi] at e
        subst e
        cases d with
        | tup l0 =>
          cases zi
          refine .inr ⟨F, a, os, _, Rp, z, fun F1 v H1 o1 rd R1 f1 => ?_⟩
          cases rd with
          | tup h r => exact ⟨_, rfl, ⟨_, sqT_mono R1.sub h⟩, q F1 H1 o1 _ R1 f1 (itok_tup h r)⟩
        | lst l0 =>
          cases zi
          refine .inl ⟨F, a, os, _, Rp, z, fun F1 v H1 o1 rd R1 f1 => ?_⟩
          cases rd with
          | lst h r => exact ⟨_, rfl, ⟨_, SqL.of (R1.sub _ _ h)⟩, q F1 H1 o1 _ R1 f1 (itok_listS (SqL.of h) r)⟩
        | scr l0 =>
          cases zi
          refine .inl ⟨F, a, os, _, Rp, z, fun F1 v H1 o1 rd R1 f1 => ?_⟩
          cases rd with
          | scr h r => exact ⟨_, rfl, ⟨_, sqL_mono R1.sub h⟩, q F1 H1 o1 _ R1 f1 (itok_listS h r)⟩
        | _ => cases zi
def rngD (lo : Int) (n : Nat) : List D := (List.range n).map fun (k : Nat) => .int (lo + (k : Int))
theorem rngD_get (lo : Int) (n i : Nat) : (rngD lo n)[i]? = if i < n then some (.int (lo + i)) else none := by
  unfold rngD
  rw [List.getElem?_map]
  by_cases h : i < n
  · rw [if_pos h, List.getElem?_range h]; rfl
  · rw [if_neg h, List.getElem?_eq_none (by simpa using Nat.le_of_not_lt h)]; rfl
theorem itok_rng {F : Hp} {lo : Int} {n : Nat} : ItOk K (Itr lo n) F (rngD lo n) :=
  ⟨fun H i s hi => by show i < n; simpa [rngD] using hi, fun H s => by show n ≤ _; simp [rngD], fun H i x H' d s y e => by
    rw [rngD_get] at e
    split at e
    · cases e
      exact .inl ⟨y.1, by rw [y.2]; exact .int _⟩
    · cases e⟩
def rng1 : D → Option (List D)
  | .int j => if -1000000 ≤ j ∧ j ≤ 1000000 then some (rngD 0 j.toNat) else none
  | _ => none
def rng2 : D → D → Option (List D)
  | .int i, .int j => if (-1000000 ≤ i ∧ i ≤ 1000000) ∧ -1000000 ≤ j ∧ j ≤ 1000000 then some (rngD i (j - i).toNat) else none
  | _, _ => none
theorem vi_range1 (hg : Gl X "range") (hm : X.mg "range" = none) (ha : VD X ρ W e1 mA) (hs : starEach [e1] X.env = [(false, eval e1 X.env)] := by rfl) : VI X ρ W tg (.Call (.Name "range" p) [e1] [] pos) (m1 rng1 mA) :=
  PI.imp (pi_range1 hg hm (pa_cons ha pa_nil hs) hs) fun σ H R ⟨F, a, os, o, Rp, e, q⟩ => by
    refine tD.bind Rp e (fun x a' z => by subst z; exact q) fun d a1 F1 v H1 o1 e1 r1 R1 f1 => ?_
    cases d with
    | int j =>
      cases r1
      simp only [lift, rng1] at e1
      split at e1
      · cases e1
      · rename_i l z
        split at z
        · rename_i hz
          cases z
          cases e1
          exact ⟨j, rfl, by omega, by omega, q F1 H1 o1 _ R1 f1 itok_rng⟩
        · cases z
    | _ => simp [lift, rng1] at e1
theorem vi_range2 (hg : Gl X "range") (hm : X.mg "range" = none) (ha : VD X ρ W e1 mA) (hb : VD X ρ W e2 mB) (hs : starEach [e1, e2] X.env = [(false, eval e1 X.env), (false, eval e2 X.env)] := by rfl) (hs2 : starEach [e2] X.env = [(false, eval e2 X.env)] := by rfl) (hs3 : starEach [e1, e2] X.env = (false, eval e1 X.env) :: starEach [e2] X.env := by rfl) :
    VI X ρ W tg (.Call (.Name "range" p) [e1, e2] [] pos) (m2 rng2 mA mB) :=
  PI.imp (pi_range2 hg hm (pa_cons ha (pa_cons hb pa_nil hs2) hs3) hs hs2) fun σ H R ⟨F, a, os, o, Rp, e, q⟩ => by
    refine tD.bind Rp e (fun x a' z => by subst z; exact q) fun d a1 F1 v H1 o1 e1 r1 R1 f1 => ?_
    refine tD.bind R1 e1 (fun x a' z => by subst z; exact exOf.step q f1) fun d2 a2 F2 v2 H2 o2 e2 r2 R2 f2 => ?_
    cases zz : rng2 d d2 with
    | none => simp [lift, zz] at e2
    | some l =>
      simp only [lift, zz] at e2
      cases e2
      unfold rng2 at zz
      split at zz
      · rename_i i j
        split at zz
        · rename_i hz
          cases zz
          cases r1; cases r2
          exact ⟨i, j, rfl, ⟨by omega, by omega, by omega, by omega⟩, q F2 H2 o2 _ R2 (f1.trans f2) itok_rng⟩
        · cases zz
      · cases zz

/-! ### for -/
def forM (g : MG) (b : M Out) : List D → M Out
  | [] => ret .nx
  | d :: ds => fun a => match g d a with
    | none => none
    | some a1 => (match b a1 with
      | some (.ok .nx a2) => forM g b ds a2
      | some (.ok .ct a2) => forM g b ds a2
      | some (.ok .bk a2) => some (.ok .nx a2)
      | r => r)
def mFor (mi : M (List D)) (g : MG) (b : M Out) : M Out := bnd mi fun l => forM g b l
/-- what the walk yields is put where it may be looked at -/
theorem ItOk.item {J : It} {F H H' : Hp} {xs : List D} {i : Nat} {v : V} {d : D} {σ : L2.St} {a : AS} {os : List Addr} (h : ItOk K J F xs) (y : J.yld i H v H') (e : xs[i]? = some d) (R : Rep K ρ F H σ a os) :
    ∃ F', RepD K F' v d ∧ Rep K ρ F' H' σ a os ∧ Fm F H os F' H' os := by
  rcases h.yld H i v H' d R.sub y e with ⟨e1, r⟩ | ⟨T, vs, l, n, e1, e2, e3, r⟩
  · subst e1
    exact ⟨F, r, R, Fm.refl⟩
  · subst e1 e2 e3
    obtain ⟨R', f⟩ := R.alloc (o := .tup vs) n
    exact ⟨_, .tup (SqT.of upd_same) (r.mono f.mono), R', f⟩
theorem drop_get {α : Type} {l : List α} {i : Nat} (h : i < l.length) : l.drop i = l[i] :: l.drop (i + 1) := by rw [List.drop_eq_getElem_cons h]
theorem vs_for {g : MG} {mi : M (List D)} (hp : PassesOwn (model X.prog X.w) X.A X.env X.xe) (hc : X.calm = true) (hi : VI X ρ W tg iter mi) (hg : VG X ρ tg g) (hb : VSs X ρ W b1 mo) (hs : ∀ x, foldedSetIterable iter X.env x = pure x := by intro _; rfl) :
    VS X ρ W (.For tg iter b1 [] pos) (mFor mi g mo) := PS.imp (ps_for hp hc hi hg hb hs) fun D σ H ⟨F, a, os, o, R, e, q⟩ => by
  cases z : mi a with
  | none => simp [mFor, bnd, z] at e
  | some o' =>
    cases o' with
    | ex x a' =>
      simp [mFor, bnd, z] at e
      subst e
      exact ⟨F, a, os, _, R, z, q.ex⟩
    | ok l a1 =>
      have e1 : forM g mo l a1 = some o := by simpa [mFor, bnd, z] using e
      refine ⟨F, a, os, _, R, z, fun F1 H1 o1 J R1 f1 it => ?_⟩
      refine ⟨fun i m σ H => m = l.length - i ∧ i ≤ l.length ∧ ∃ F a os, Rep X.K ρ F H σ a os ∧ HSub F1 F ∧ forM g mo (l.drop i) a = some o ∧ endOf X.K ρ W D F H os o, ⟨_, rfl, Nat.zero_le _, F1, a1, o1, R1, fun _ _ e => e, e1, q.step f1⟩, ?_⟩
      rintro i m σ H ⟨rfl, hi, F, a, os, R, s, e, q⟩
      by_cases hlt : i < l.length
      · rw [drop_get hlt] at e
        refine .inr ⟨it.go H i (fun p u z => R.sub p u (s p u z)) hlt, fun σ' H' => ∃ F a os, Rep X.K ρ F H' σ' a os ∧ HSub F1 F ∧ forM g mo (l.drop (i + 1)) a = some o ∧ endOf X.K ρ W D F H' os o, fun σ' H' h => ⟨_, by omega, rfl, hlt, h⟩, fun v H' y => ?_⟩
        obtain ⟨F2, rd, R2, f2⟩ := (it.mono s).item y (d := l[i]) (by simp [hlt]) R
        unfold forM at e
        cases zg : g l[i] a with
        | none => simp [zg] at e
        | some a2 =>
          simp only [zg] at e
          refine ⟨F2, a, os, _, a2, R2, rd, zg, fun F3 σ3 H3 o3 R3 f3 => ?_⟩
          have q3 := q.step (f2.trans f3)
          have s3 : HSub F1 F3 := fun p u z => f3.mono p u (f2.mono p u (s p u z))
          cases zb : mo a2 with
          | none => simp [zb] at e
          | some ob =>
            refine ⟨F3, a2, o3, ob, R3, zb, ?_⟩
            rw [zb] at e
            cases ob with
            | ok r a' =>
              cases r with
              | nx => exact fun F' σ' H' os' R' f => ⟨F', a', os', R', fun p u z => f.mono p u (s3 p u z), e, q3.step f⟩
              | ct => exact fun F' σ' H' os' R' f => ⟨F', a', os', R', fun p u z => f.mono p u (s3 p u z), e, q3.step f⟩
              | bk => cases e; exact fun F' σ' H' os' R' f => q3 F' σ' H' os' R' f
              | rt r => cases e; exact q3
            | ex x a' => cases e; exact q3
      · have el : i = l.length := by omega
        subst el
        rw [List.drop_length] at e
        simp [forM, ret] at e
        subst e
        exact .inl ⟨it.stop H fun p u z => R.sub p u (s p u z), q F σ H os R Fm.refl⟩

/-! ### comprehensions -/
/-- the block's own name stands in slot i -/
def lcM (i : Nat) (t : M Bool) (m : M D) : List D → List D → AS → Option (List D × AS)
  | [], acc, a => some (acc, a)
  | d :: ds, acc, a => match t (a.set i (.fr d)) with
    | some (.ok true a2) => (match m a2 with
      | some (.ok y a3) => lcM i t m ds (acc ++ [y]) (a3.set i .un)
      | _ => none)
    | some (.ok false a2) => lcM i t m ds acc (a2.set i .un)
    | _ => none
def calmS : Option Sl → Bool
  | some .un => true
  | some (.fr _) => true
  | _ => false
def mLc (mi : M (List D)) (i : Nat) (t : M Bool) (m : M D) : M Sl := bnd mi fun l => fun a => if calmS a[i]? = true ∧ l.length ≤ sizeLine then (match lcM i t m l [] (a.set i .un) with
  | some (acc, a') => (match a[i]? with
    | some s => some (.ok (.ow none (.lst acc)) (a'.set i s))
    | none => none)
  | none => none) else none
abbrev VTs (X : Cx) (ρ : Nat → Addr) (W : WX) (ifs : List Expr) (m : M Bool) : Prop := PTs X ifs (tT X.K ρ W m)
theorem PTs.imp {ifs : List Expr} {t t' : TT} (h : PTs X ifs t) (i : ∀ σ H Q, t' σ H Q → t σ H Q) : PTs X ifs t' := ⟨fun pins s σ H Q I q => h.run pins s σ H Q I (i σ H Q q)⟩
theorem vts_nil : VTs X ρ W [] (ret true) := PTs.imp pts_nil fun σ H Q ⟨F, a, os, o, R, e, q⟩ => by
  simp [ret] at e
  subst e
  exact q F H os R Fm.refl
theorem vts_one {t : M Bool} (h : VT X ρ W e1 t) : VTs X ρ W [e1] t := pts_one h
abbrev W0 : WX := fun _ _ _ _ => False
/-- a slot that owns nothing is exchanged -/
theorem Rep.swap {F H : Hp} {σ : L2.St} {a : AS} {os : List Addr} {i : Nat} {s0 s : Sl} {v : Option V} (R : Rep K ρ F H σ a os) (e : a[i]? = some s0) (h0 : calmS (some s0) = true) (h : RepS K ρ F H v s []) : Rep K ρ F H (σ.set i v) (a.set i s) os := by
  obtain ⟨w, p1, pi, p2, e1, e2, h1, h2⟩ := R.sl.zip e
  have : pi = [] := by
    cases h1 with
    | un => rfl
    | fr _ => rfl
    | ow _ _ => simp [calmS] at h0
  subst this
  subst e2
  exact ⟨R.sub, h2 F H v s [] (fun _ _ e => e) (fun _ _ => rfl) h, R.nd, R.nf⟩
theorem Fm.app {F H : Hp} {os : List Addr} {p : Addr} {u : HO} (h : p ∈ os) (hp : H p ≠ none) : Fm F H os F (upd H p u) os :=
  ⟨fun _ _ e => e, fun q o e n => by rw [upd_ne fun z => n (by rw [z]; exact h)]; exact e, fun _ h => .inl h, fun _ h h' => absurd h h', fun q hq => by
    by_cases e : q = p
    · rw [e, upd_same]; simp
    · rw [upd_ne e]; exact hq⟩
/-- a slot is forgotten -/
theorem Rep.drop {F H : Hp} {σ : L2.St} {a : AS} {os : List Addr} (R : Rep K ρ F H σ a os) (i : Nat) (v : Option V) : ∃ os', Rep K ρ F H (σ.set i v) (a.set i .un) os' ∧ Fm F H os F H os' := by
  by_cases hi : i < a.length
  · obtain ⟨w, p1, pi, p2, e1, e2, h1, h2⟩ := R.sl.zip (i := i) (s := a[i]) (by simp [hi])
    subst e2
    have nd := R.nd
    rw [List.append_assoc, List.nodup_append, List.nodup_append] at nd
    refine ⟨p1 ++ [] ++ p2, ⟨R.sub, h2 F H v .un [] (fun _ _ e => e) (fun _ _ => rfl) .un, ?_, fun p hp => R.nf p ?_⟩, ⟨fun _ _ e => e, fun _ _ e _ => e, fun p hp => .inl ?_, fun _ h h' => absurd h h', fun _ h => h⟩⟩
    · rw [List.append_nil]
      exact nodup_app nd.1 nd.2.1.2.1 fun p hp hq => nd.2.2 p hp p (List.mem_append_right _ hq) rfl
    · rw [List.append_nil] at hp
      rcases List.mem_append.mp hp with hp | hp <;> simp [hp]
    · rw [List.append_nil] at hp
      rcases List.mem_append.mp hp with hp | hp <;> simp [hp]
  · have h1 := R.sl.length
    rw [List.set_eq_of_length_le (by omega), List.set_eq_of_length_le (by omega)]
    exact ⟨os, R, Fm.refl⟩
/-- the owned list on top is written -/
theorem Rep.wr {F H : Hp} {σ : L2.St} {a : AS} {os : List Addr} {p : Addr} {l l' : List D} {vs' : List V} (R : Rep K ρ F H (some (.ref p) :: σ) (.ow none (.lst l) :: a) (p :: os)) (r : RepL K F vs' l') (h : RepSs K ρ F H σ a os) :
    Rep K ρ F (upd H p (.lst vs')) (some (.ref p) :: σ) (.ow none (.lst l') :: a) (p :: os) := by
  have nd := List.nodup_cons.mp R.nd
  refine ⟨fun q o e => ?_, .cons (o1 := [p]) (.ow (.lst upd_same r) fun k z => by cases z) (h.move (fun _ _ e => e) fun q hq => upd_ne fun z => nd.1 (z ▸ hq)), R.nd, R.nf⟩
  rw [upd_ne fun z => by rw [z, R.nf p (List.mem_cons_self ..)] at e; cases e]
  exact R.sub q o e
theorem lc_ok {mi : M (List D)} {i : Nat} {t : M Bool} {m : M D} {σ : L2.St} {H : Hp} {Q : VK} (h : tE K ρ W (mLc mi i t m) σ H Q) : tLc (tI K ρ W mi) (gName i) (tT K ρ W0 t) (tD K ρ W0 m) [i] σ H Q := by
  obtain ⟨F, a, os, o, R, e, q⟩ := h
  cases z : mi a with
  | none => simp [mLc, bnd, z] at e
  | some o' =>
    cases o' with
    | ex x a' =>
      simp [mLc, bnd, z] at e
      subst e
      exact ⟨F, a, os, _, R, z, q⟩
    | ok l a1 =>
      simp only [mLc, bnd, z] at e
      split at e
      · rename_i hc
        obtain ⟨hcalm, hlen⟩ := hc
        split at e
        · rename_i accF aF hl
          split at e
          · rename_i s0 hs0
            cases e
            refine ⟨F, a, os, _, R, z, fun F1 H1 o1 J R1 f1 it D nD => ?_⟩
            rw [hs0] at hcalm
            have Rw : Rep K ρ F1 H1 (σ.set i none) (a1.set i .un) o1 := R1.swap hs0 hcalm .un
            obtain ⟨R0, f0⟩ := Rw.allocL nD (RepL.nil (K := K) (F := F1))
            have hiL : i < a1.length := (List.getElem?_eq_some_iff.mp hs0).1
            -- the frozen value that comes back
            obtain ⟨w0, _, _, _, ew, _, hw, _⟩ := R1.sl.zip hs0
            refine ⟨fun k n H => n = l.length - k ∧ k ≤ l.length ∧ ∃ F a os acc, Rep K ρ F H (some (.ref D) :: σ.set i none) (.ow none (.lst acc) :: a) (D :: os) ∧ HSub F1 F ∧ Fm F1 (upd H1 D (.lst [])) (D :: o1) F H (D :: os) ∧ a[i]? = some .un ∧ acc.length ≤ k ∧ lcM i t m (l.drop k) acc a = some (accF, aF),
              ⟨_, rfl, Nat.zero_le _, F1, _, _, [], R0, fun _ _ e => e, Fm.refl, by simp [hiL], Nat.le_refl _, hl⟩, ?_⟩
            rintro k n H ⟨rfl, hk, F2, a2, o2, acc, R2, s2, f2, ei, hacc, e2⟩
            obtain ⟨p1, p2, ep, hD, R3, _⟩ := R2.tail
            have hHD : H D ≠ none ∧ p1 = [D] := by
              cases hD with
              | ow h _ => cases h with
                | lst h _ => exact ⟨by rw [h]; simp, rfl⟩
            obtain ⟨hHD, rfl⟩ := hHD
            have ep' : o2 = p2 := by simpa using ep
            subst ep'
            by_cases hlt : k < l.length
            · rw [drop_get hlt] at e2
              refine .inr ⟨it.go H k (fun p u z => R2.sub p u (s2 p u z)) hlt, fun H' => ∃ F a os acc, Rep K ρ F H' (some (.ref D) :: σ.set i none) (.ow none (.lst acc) :: a) (D :: os) ∧ HSub F1 F ∧ Fm F1 (upd H1 D (.lst [])) (D :: o1) F H' (D :: os) ∧ a[i]? = some .un ∧ acc.length ≤ k + 1 ∧ lcM i t m (l.drop (k + 1)) acc a = some (accF, aF),
                fun H' h => ⟨_, by omega, rfl, hlt, h⟩, fun v H' y => ?_⟩
              obtain ⟨F3, rd, R4, f3⟩ := (it.mono s2).item y (d := l[k]) (by simp [hlt]) R3
              have R5 : Rep K ρ F3 H' ((σ.set i none).set i (some v)) (a2.set i (.fr l[k])) o2 := R4.swap ei rfl (.fr rd)
              have wp : wipe ((σ.set i none).set i (some v)) [i] = wipe σ [i] := by
                show ((σ.set i none).set i (some v)).set i none = σ.set i none
                rw [List.set_set, List.set_set]
              refine ⟨wp, ?_⟩
              unfold lcM at e2
              -- what a turn leaves
              have fin : ∀ {F5 H5 : Hp} {o5 : List Addr} {a4 : AS}, Rep K ρ F5 H5 ((σ.set i none).set i (some v)) a4 o5 → Fm F2 H o2 F5 H5 o5 → ∃ o6, Rep K ρ F5 H5 (some (.ref D) :: σ.set i none) (.ow none (.lst acc) :: a4.set i .un) (D :: o6) ∧ HSub F1 F5 ∧ Fm F1 (upd H1 D (.lst [])) (D :: o1) F5 H5 (D :: o6) ∧ (a4.set i .un)[i]? = some .un := fun {F5 H5 o5 a4} R6 g => by
                obtain ⟨o6, R7, f7⟩ := R6.drop i none
                rw [List.set_set, List.set_set] at R7
                have hs1 : RepSs K ρ F2 H [some (.ref D)] [.ow none (.lst acc)] [D] := .cons (o2 := []) hD .nil
                obtain ⟨R8, f8⟩ := Rep.push hs1 R2.nd (fun p hp => R2.nf p (List.mem_append_left _ hp)) (g.trans f7) R7
                have hl : a4.length = a2.length := by
                  have h1 := R6.sl.length
                  have h2 := R5.sl.length
                  simp only [List.length_set] at h1 h2
                  omega
                have hi2 : i < a2.length := (List.getElem?_eq_some_iff.mp ei).1
                exact ⟨o6, R8, fun p u z => g.mono p u (s2 p u z), f2.trans f8, by simp [hl, hi2]⟩
              cases zt : t (a2.set i (.fr l[k])) with
              | none => simp [zt] at e2
              | some ot =>
                cases ot with
                | ex x a' => simp [zt] at e2
                | ok b a3 =>
                  refine ⟨F3, _, o2, _, R5, zt, fun F4 H4 o4 R6 f4 => ?_⟩
                  cases b with
                  | false =>
                    simp only [zt] at e2
                    obtain ⟨o6, R8, s8, f8, ei8⟩ := fin R6 (f3.trans f4)
                    exact iteF ⟨F4, _, o6, acc, R8, s8, f8, ei8, by omega, e2⟩
                  | true =>
                    refine iteT ?_
                    simp only [zt] at e2
                    cases zm : m a3 with
                    | none => simp [zm] at e2
                    | some om =>
                      cases om with
                      | ex x a' => simp [zm] at e2
                      | ok y a4 =>
                        simp only [zm] at e2
                        refine ⟨F4, a3, o4, _, R6, zm, fun F5 v5 H5 o5 rd5 R7 f5 => ?_⟩
                        obtain ⟨o6, R8, s8, f8, ei8⟩ := fin R7 ((f3.trans f4).trans f5)
                        obtain ⟨q1, q2, eq, hD8, R9, _⟩ := R8.tail
                        cases hD8 with
                        | ow h8 _ => cases h8 with
                          | lst h8 r8 =>
                            have eq' : o6 = q2 := by simpa using eq
                            subst eq'
                            refine ⟨_, h8, ?_, F5, _, o6, acc ++ [y], R8.wr (r8.append (.cons rd5 .nil)) R9.sl, s8, f8.trans (Fm.app List.mem_cons_self (by rw [h8]; simp)), ei8, by simp; omega, e2⟩
                            rw [r8.length]
                            omega
            · have el : k = l.length := by omega
              subst el
              rw [List.drop_length] at e2
              simp [lcM] at e2
              obtain ⟨rfl, rfl⟩ := e2
              refine .inl ⟨it.stop H fun p u z => R2.sub p u (s2 p u z), ?_⟩
              -- the slot's own value comes back
              have hback : RepS K ρ F2 H (some (.ref D)) (.ow none (.lst acc)) [D] := hD
              have Rb : Rep K ρ F2 H ((σ.set i none).set i w0) (a2.set i s0) o2 := by
                refine R3.swap ei rfl ?_
                have hw' : RepS K ρ F2 H w0 s0 [] := by
                  cases hw with
                  | un => exact .un
                  | fr h => exact .fr (h.mono s2)
                  | ow _ _ => simp [calmS] at hcalm
                exact hw'
              rw [List.set_set, set_same ew] at Rb
              refine q F2 _ H (D :: o2) ⟨Rb.sub, .cons (o1 := [D]) hback Rb.sl, R2.nd, R2.nf⟩ ?_
              exact f1.trans (f0.trans f2)
          · cases e
        · cases e
      · cases e
variable {t : M Bool} {m : M D} {ifs : List Expr} {scope : Scope} {i : Nat}
theorem ve_lc {mi : M (List D)} (hc : X.calm = true) (hN : X.N.Nodup) (hi : VI X ρ W tg iter mi) (ok : BlkOk X.N X.env.scope scope [(x, i)])
    (hg : ∀ (s : Shared) (H : Hp) (C : Addr) (cl : List (Str × Addr)) (fp : List Addr), PG (X.blk s H scope (compEnvC scope cl C X.env) fp) tg (gName i)) (ht : ∀ (s : Shared) (H : Hp) (C : Addr) (cl : List (Str × Addr)) (fp : List Addr), VTs (X.blk s H scope (compEnvC scope cl C X.env) fp) ρ W0 ifs t)
    (he : ∀ (s : Shared) (H : Hp) (C : Addr) (cl : List (Str × Addr)) (fp : List Addr), VD (X.blk s H scope (compEnvC scope cl C X.env) fp) ρ W0 e1 m) (hs : ∀ x, foldedSetIterable iter X.env x = pure x := by intro _; rfl) :
    VE X ρ W (.ListComp e1 [⟨tg, iter, ifs, 0⟩] scope pos) (mLc mi i t m) := PE.imp (pe_lc hc hN hi ok hg ht he hs) fun _ _ _ h => lc_ok h
theorem vs_setLc {mi : M (List D)} {j : Nat} {y : Str} {py spos : Pos} (hc : X.calm = true) (hN : X.N.Nodup) (hy : X.N[j]? = some y) (hyl : X.env.scope.names.lookup y = some .local)
    (hsw : swapsWith (.ListComp e1 [⟨tg, iter, ifs, 0⟩] scope pos) (some (.Name y py)) spos.line X.env = pure true) (hi : VI X ρ W tg iter mi) (ok : BlkOk X.N X.env.scope scope [(x, i)])
    (hg : ∀ (s : Shared) (H : Hp) (C : Addr) (cl : List (Str × Addr)) (fp : List Addr), PG (X.blk s H scope (compEnvC scope cl C X.env) fp) tg (gName i)) (ht : ∀ (s : Shared) (H : Hp) (C : Addr) (cl : List (Str × Addr)) (fp : List Addr), VTs (X.blk s H scope (compEnvC scope cl C X.env) fp) ρ W0 ifs t)
    (he : ∀ (s : Shared) (H : Hp) (C : Addr) (cl : List (Str × Addr)) (fp : List Addr), VD (X.blk s H scope (compEnvC scope cl C X.env) fp) ρ W0 e1 m) (hs : ∀ x, foldedSetIterable iter X.env x = pure x := by intro _; rfl) :
    VS X ρ W (.Assign [.Name y py] (.ListComp e1 [⟨tg, iter, ifs, 0⟩] scope pos) spos) (mSet j (mLc mi i t m)) := PS.imp (ps_setLc hc hN hy hyl hsw hi ok hg ht he hs) fun D σ H ⟨F, a, os, o, R, e, q⟩ => by
  refine lc_ok (t := t) (m := m) (mi := mi) (i := i) ?_
  refine tE.bind R e (fun x a' z => by subst z; exact q.ex) fun s a1 F1 v H1 o1 e1 R1 f1 => ?_
  unfold mPut at e1
  split at e1
  · rename_i hi
    cases e1
    obtain ⟨os', R', f⟩ := R1.store hi
    exact q F1 _ H1 os' R' (f1.trans f)
  · cases e1
end
end L3
end
section
namespace L3
open PySem PySem.Spec PyProof.Rows L2

/-! ### slots as pairs, in any sequence -/
abbrev Pr := Option V × Sl
section
variable {K : PySem.W.Frag} {ρ ρ' : Nat → Addr} {F F' H H' : Hp}
inductive RepP (K : PySem.W.Frag) (ρ : Nat → Addr) (F H : Hp) : List Pr → List Addr → Prop
  | nil : RepP K ρ F H [] []
  | cons {p : Pr} {ps : List Pr} {o1 o2 : List Addr} : RepS K ρ F H p.1 p.2 o1 → RepP K ρ F H ps o2 → RepP K ρ F H (p :: ps) (o1 ++ o2)
theorem RepSs.p : ∀ {σ : L2.St} {a : AS} {os : List Addr}, RepSs K ρ F H σ a os → RepP K ρ F H (σ.zip a) os
  | _, _, _, .nil => .nil
  | _, _, _, .cons h r => .cons h (RepSs.p r)
theorem RepP.s : ∀ {σ : L2.St} {a : AS} {os : List Addr}, σ.length = a.length → RepP K ρ F H (σ.zip a) os → RepSs K ρ F H σ a os
  | [], [], _, _, .nil => .nil
  | _ :: _, _ :: _, _, l, .cons h r => .cons h (RepP.s (by simpa using l) r)
theorem RepP.move (s : HSub F F') : ∀ {ps : List Pr} {os : List Addr}, RepP K ρ F H ps os → (∀ p ∈ os, H' p = H p) → RepP K ρ F' H' ps os
  | _, _, .nil, _ => .nil
  | _, _, .cons h r, k => .cons (h.move s fun p hp => k p (List.mem_append_left _ hp)) (r.move s fun p hp => k p (List.mem_append_right _ hp))
theorem RepP.append : ∀ {ps qs : List Pr} {os o2 : List Addr}, RepP K ρ F H ps os → RepP K ρ F H qs o2 → RepP K ρ F H (ps ++ qs) (os ++ o2)
  | _, _, _, _, .nil, r => r
  | _, _, _, _, .cons h t, r => by
    have z := RepP.cons h (t.append r)
    rw [← List.append_assoc] at z
    exact z
theorem RepP.split : ∀ {ps qs : List Pr} {os : List Addr}, RepP K ρ F H (ps ++ qs) os → ∃ o1 o2, os = o1 ++ o2 ∧ RepP K ρ F H ps o1 ∧ RepP K ρ F H qs o2
  | [], _, os, r => ⟨[], os, rfl, .nil, r⟩
  | _ :: ps, _, _, .cons (o1 := p1) h r => by
    obtain ⟨o1, o2, e, r1, r2⟩ := RepP.split r
    exact ⟨p1 ++ o1, o2, by rw [e]; simp, .cons h r1, r2⟩
theorem RepP.dom : ∀ {ps : List Pr} {os : List Addr}, RepP K ρ F H ps os → ∀ p ∈ os, H p ≠ none
  | _, _, .nil, p, h => nomatch h
  | _, _, .cons h r, p, hp => (List.mem_append.mp hp).elim (h.dom p) (r.dom p)
theorem RepP.perm {ps qs : List Pr} (h : ps.Perm qs) : ∀ {os : List Addr}, RepP K ρ F H ps os → ∃ os', RepP K ρ F H qs os' ∧ os.Perm os' := by
  induction h with
  | nil => exact fun r => ⟨_, r, .refl _⟩
  | cons x h ih =>
    intro os r
    cases r with
    | cons h r =>
      obtain ⟨o', r', pm⟩ := ih r
      exact ⟨_, .cons h r', List.Perm.append_left _ pm⟩
  | swap x y l =>
    intro os r
    cases r with
    | cons h1 r =>
      cases r with
      | cons h2 r =>
        refine ⟨_, .cons h2 (.cons h1 r), ?_⟩
        rw [← List.append_assoc, ← List.append_assoc]
        exact List.Perm.append_right _ List.perm_append_comm
  | trans _ _ ih1 ih2 =>
    intro os r
    obtain ⟨o1, r1, p1⟩ := ih1 r
    obtain ⟨o2, r2, p2⟩ := ih2 r1
    exact ⟨o2, r2, p1.trans p2⟩
theorem RepP.un {v : Option V} {ps : List Pr} {os : List Addr} (r : RepP K ρ F H ps os) : RepP K ρ F H ((v, .un) :: ps) os := .cons (o1 := []) .un r
theorem RepP.unun {v : Option V} {ps : List Pr} {os : List Addr} (r : RepP K ρ F H ((v, .un) :: ps) os) : RepP K ρ F H ps os := by
  cases r with
  | cons h r =>
    cases h
    exact r
theorem perm_out {α : Type} : ∀ {l : List α} {i : Nat} {x : α}, l[i]? = some x → l.Perm (x :: l.eraseIdx i)
  | [], _, _, e => by simp at e
  | a :: l, 0, x, e => by simp at e; subst e; exact .refl _
  | a :: l, i + 1, x, e => by
    have h := perm_out (l := l) (i := i) (x := x) (by simpa using e)
    exact (List.Perm.cons a h).trans (List.Perm.swap x a _)
theorem perm_set {α : Type} : ∀ {l : List α} {i : Nat} {x y : α}, l[i]? = some x → (l.set i y).Perm (y :: l.eraseIdx i)
  | [], _, _, _, e => by simp at e
  | a :: l, 0, x, y, e => by exact .refl _
  | a :: l, i + 1, x, y, e => by
    have h := perm_set (l := l) (i := i) (x := x) (y := y) (by simpa using e)
    exact (List.Perm.cons a h).trans (List.Perm.swap y a _)
/-- out of its slot, to the end of B -/
theorem RepP.out {A B : List Pr} {os : List Addr} {i : Nat} {v : Option V} {s : Sl} (r : RepP K ρ F H (B ++ A) os) (e : A[i]? = some (v, s)) : ∃ os', RepP K ρ F H ((B ++ [(v, s)]) ++ A.set i (v, .un)) os' ∧ os.Perm os' := by
  have p1 : (B ++ A).Perm ((v, s) :: (B ++ A.eraseIdx i)) := (List.Perm.append_left B (perm_out e)).trans List.perm_middle
  obtain ⟨o1, r1, q1⟩ := r.perm p1
  have p2 : ((v, Sl.un) :: (v, s) :: (B ++ A.eraseIdx i)).Perm ((B ++ [(v, s)]) ++ A.set i (v, .un)) := by
    have a1 : ((B ++ [(v, s)]) ++ A.set i (v, .un)).Perm ((B ++ [(v, s)]) ++ ((v, .un) :: A.eraseIdx i)) := List.Perm.append_left _ (perm_set e)
    refine (a1.trans ?_).symm
    refine List.perm_middle.trans (List.Perm.cons _ ?_)
    rw [List.append_assoc]
    exact List.perm_middle
  obtain ⟨o2, r2, q2⟩ := (r1.un (v := v)).perm p2
  exact ⟨o2, r2, q1.trans q2⟩
/-- from the head back into its slot -/
theorem RepP.back {A B : List Pr} {os : List Addr} {i : Nat} {v : Option V} {s : Sl} (r : RepP K ρ F H ((v, s) :: (B ++ A)) os) (e : A[i]? = some (v, .un)) : ∃ os', RepP K ρ F H (B ++ A.set i (v, s)) os' ∧ os.Perm os' := by
  have p1 : ((v, s) :: (B ++ A)).Perm ((v, .un) :: (B ++ A.set i (v, s))) := by
    have a1 : (B ++ A).Perm ((v, .un) :: (B ++ A.eraseIdx i)) := (List.Perm.append_left B (perm_out e)).trans List.perm_middle
    have a2 : (B ++ A.set i (v, s)).Perm ((v, s) :: (B ++ A.eraseIdx i)) := (List.Perm.append_left B (perm_set e)).trans List.perm_middle
    exact (List.Perm.cons _ a1).trans ((List.Perm.swap _ _ _).trans (List.Perm.cons _ a2.symm))
  obtain ⟨o1, r1, q1⟩ := r.perm p1
  exact ⟨o1, r1.unun, q1⟩
end

/-! ### what a def does -/
abbrev FM := List Sl → Option (Er Sl)
def ρof (vs : List V) : Nat → Addr := fun i => match vs[i]? with
  | some (.ref p) => p
  | _ => 0
/-- the promise: by its arguments' slots -/
def spM (K : PySem.W.Frag) (n : Nat) (m : FM) : Sp := fun vs H Q E => ∃ F as os o, vs.length = n ∧ Rep K (ρof vs) F H (vs.map some) as os ∧ m as = some o ∧ match o with
  | .ok r as' => ∀ F' v H' os', Rep K (ρof vs) F' H' (some v :: vs.map some) (r :: as') os' → Fm F H os F' H' os' → Q v H'
  | .ex x as' => ∀ F' H' os' c d, Rep K (ρof vs) F' H' (vs.map some) as' os' → Fm F H os F' H' os' → RepX K F' x c d → E c d H'
def outSl : Sl → Option Sl → Sl
  | .fr d, _ => .fr d
  | .ow (some k) _, some (.ow (some k') o) => if k = k' then .ow (some k) o else .un
  | _, _ => .un
def outs : List Sl → AS → List Sl
  | [], _ => []
  | s :: ss, a => outSl s a.head? :: outs ss a.tail
/-- a def by its body: n further names -/
def fnM (n : Nat) (b : M Out) : FM := fun as => match b (as ++ List.replicate n .un) with
  | some (.ok (.rt r) a') => some (.ok r (outs as a'))
  | some (.ok .nx a') => some (.ok (.fr .non) (outs as a'))
  | some (.ex x a') => some (.ex x (outs as a'))
  | _ => none
section
variable {K : PySem.W.Frag} {ρ : Nat → Addr} {F F' H H' : Hp}
/-- what is handed back of the arguments -/
theorem outs_ok (m : HSub F F') : ∀ {vs : List V} {as : List Sl} {os : List Addr} {σ' : L2.St} {a' : AS} {os' : List Addr}, RepSs K ρ F H (vs.map some) as os → RepSs K ρ F' H' σ' a' os' → ∃ o2, RepSs K ρ F' H' (vs.map some) (outs as a') o2 ∧ o2.Sublist os'
  | [], [], _, _, _, os', .nil, _ => ⟨[], .nil, List.nil_sublist _⟩
  | v :: vs, s :: ss, _, σ', a', os', .cons h r, r' => by
    cases r' with
    | nil =>
      obtain ⟨o2, q1, q2⟩ := outs_ok m r (RepSs.nil (K := K) (ρ := ρ) (F := F') (H := H'))
      have hh : RepS K ρ F' H' (some v) (outSl s none) [] := by
        cases h with
        | un => exact .un
        | fr h => exact .fr (h.mono m)
        | ow h t =>
          rename_i t0
          cases t0 <;> exact .un
      exact ⟨o2, .cons (o1 := []) hh q1, q2⟩
    | cons h' r'' =>
      obtain ⟨o2, q1, q2⟩ := outs_ok m r r''
      rename_i w ws s' ss' p1 p2
      have hh : ∃ o1, RepS K ρ F' H' (some v) (outSl s (some s')) o1 ∧ o1.Sublist p1 := by
        cases h with
        | un => exact ⟨[], .un, List.nil_sublist _⟩
        | fr h => exact ⟨[], .fr (h.mono m), List.nil_sublist _⟩
        | ow h t =>
          rename_i p o t0
          cases t0 with
          | none => exact ⟨[], .un, List.nil_sublist _⟩
          | some k =>
            cases s' with
            | un => exact ⟨[], .un, List.nil_sublist _⟩
            | fr d => exact ⟨[], .un, List.nil_sublist _⟩
            | ow t' o' =>
              cases t' with
              | none => exact ⟨[], .un, List.nil_sublist _⟩
              | some k' =>
                show ∃ o1, RepS K ρ F' H' (some (V.ref p)) (if k = k' then Sl.ow (some k) o' else Sl.un) o1 ∧ o1.Sublist p1
                by_cases e : k = k'
                · rw [if_pos e]
                  subst e
                  cases h' with
                  | ow h2 t2 =>
                    have e1 := t k rfl
                    have e2 := t2 k rfl
                    rw [e1] at e2
                    subst e2
                    exact ⟨_, .ow h2 t2, List.Sublist.refl _⟩
                · rw [if_neg e]
                  exact ⟨[], .un, List.nil_sublist _⟩
      obtain ⟨o1, q3, q4⟩ := hh
      exact ⟨o1 ++ o2, .cons q3 q1, q4.append q2⟩
end

/-! ### guards: nothing is being shown around -/
structure FnG (P : Program) (w : World) (K : PySem.W.Frag) (mg : Str → Option Value) (base : Heap) (CX : CXT) (k : Nat) (f : Addr) (fd : FuncData) (ps : List Str) (sp : Sp) : Prop where
  len : ∀ vs H Q E, sp vs H Q E → vs.length = ps.length
  run : ∀ (A : Around) (outer : List Env) (s : Shared) (H : Hp) (args : Args) (us : List Value) (vs : List V) (Q : VK) (E : XK), A.guards = some [] → Room k A → Env0 P w K mg base A outer s H → BindsTo s fd args (ps.zip us) → Vals vs us → sp vs H Q E →
    codeAny (model P w) A (.call (.ref f) args) (CR CX outer P w H s Q E) s
section
variable {CX : CXT} {P : Program} {w : World} {K : PySem.W.Frag} {mg : Str → Option Value} {base : Heap} {k : Nat} {f : Addr} {name qual : Str} {params : Arguments} {body : List Stmt} {scope : Scope} {dV kV doc pm cdv ct oc : Value} {an od : Option Addr}
  {osl : Array (Option Value)} {N ps : List Str} {sp : Sp} {fd : FuncData}
theorem FnG.mono {j : Nat} (h : FnG P w K mg base CX j f fd ps sp) (l : j ≤ k) : FnG P w K mg base CX k f fd ps sp := ⟨h.len, fun A outer s H args us vs Q E hg hr => h.run A outer s H args us vs Q E hg (hr.mono l)⟩
theorem guards_deeper {A : Around} {e : Env} (h : A.guards = some []) : (A.deeper e).guards = some [] := h
theorem fng_of (lk : K.lookup f = some ⟨oc, od, .func (PySem.W.fnOf name qual params body scope dV kV doc pm an cdv ct), osl⟩) (hcd : PySem.W.codeIn K cdv qual = true) (S : FnScope N ps scope)
    (len : ∀ vs H Q E, sp vs H Q E → vs.length = ps.length)
    (hbody : ∀ (A : Around) (outer : List Env) (s : Shared) (H : Hp) (vs : List V) (Q : VK) (E : XK), (A.deeper (envOfC qual scope s.heap.objs.size f cdv)).guards = some [] → Room k (A.deeper (envOfC qual scope s.heap.objs.size f cdv)) → sp vs H Q E →
      ∃ t, PSs (cxOf CX P w K mg base N qual scope f cdv A outer s H E) body t ∧ t { nx := fun _ H' => Q .non H', rt := Q } (L2.start N vs) H) :
    FnG P w K mg base CX (k + 1) f (PySem.W.fnOf name qual params body scope dV kV doc pm an cdv ct) ps sp := by
  refine ⟨len, fun A outer s H args us vs Q E hgd hr e0 hb r hsp => ?_⟩
  have hl := len _ _ _ _ hsp
  have KX : K.In s.heap := e0.mod.kin.keeps fun b o e => (e0.bs b o e).1
  have lim : s.heap.NoLimit := e0.mod.nolimit.keeps fun b o e => (e0.bs b o e).1
  have hkd : ∀ y ∈ ps.zip us, scope.names.lookup y.1 = some .local ∨ (scope.names.lookup y.1 = some .cell ∧ ((cellsFrom (s.heap.objs.size + 1) scope.names []).lookup y.1).isSome = true) := by
    rintro ⟨n, v⟩ hy
    rcases S.par n (List.of_mem_zip hy).1 with q | q
    · exact .inl q
    · exact .inr ⟨q, PySem.W.cellsFrom_some _ _ _ (.inl q)⟩
  refine codeAny_call_function hr.depth (KX _ _ lk) rfl S.co S.gen rfl (PySem.W.codeRec_of KX hcd) (hb _ _ _ _ ?_)
  refine wpAny_newFunctionEnv_cells S.kind hkd fun env he s1 x => ?_
  subst he
  refine ⟨lim.keeps x.toInCall.keep, codeAny_func ?_⟩
  obtain ⟨t, ht, hq⟩ := hbody A outer s H vs Q E (guards_deeper hgd) (hr.deeper _) hsp
  have I0 : Inv (cxOf CX P w K mg base N qual scope f cdv A outer s H E) [] (L2.start N vs) H s1 := inv_start S hr.hd e0 hl r x
  refine wpAny_mono (ht.run [] s1 (L2.start N vs) H _ I0 hq) (fun fl s' hs => ?_) fun e s' hs => hs
  cases fl with
  | ret u =>
    obtain ⟨v, σ', H', J, rv, q⟩ := hs
    exact ⟨v, H', J.os, J.bare, J.base, J.hok, rv, q⟩
  | next =>
    obtain ⟨σ', H', J, q⟩ := hs
    exact ⟨V.non, H', J.os, J.bare, J.base, J.hok, rfl, q⟩
  | brk => exact hs.elim fun _ h => h.elim fun _ h => h.2.elim
  | cont => exact hs.elim fun _ h => h.elim fun _ h => h.2.elim

/-- the state at a body's start -/
theorem rep_start {vs : List V} {as : List Sl} {os : List Addr} {F H : Hp} (R : Rep K (ρof vs) F H (vs.map some) as os) : Rep K (ρof vs) F H (L2.start N vs) (as ++ List.replicate (N.length - vs.length) .un) os := by
  refine ⟨R.sub, ?_, R.nd, R.nf⟩
  unfold L2.start
  have : ∀ n : Nat, RepSs K (ρof vs) F H (List.replicate n none) (List.replicate n .un) [] := fun n => by
    induction n with
    | zero => exact .nil
    | succ n ih =>
      rw [List.replicate_succ, List.replicate_succ]
      exact .cons (o1 := []) .un ih
  have z := R.sl.append (this (N.length - vs.length))
  rw [List.append_nil] at z
  exact z
theorem sub_nodup {a b : List Addr} (h : a.Sublist b) (n : b.Nodup) : a.Nodup := n.sublist h
theorem fm_sub {F H F' H' : Hp} {os o1 o2 : List Addr} (f : Fm F H os F' H' o1) (h : ∀ p ∈ o2, p ∈ o1) : Fm F H os F' H' o2 := ⟨f.mono, f.keep, fun p hp => f.own p (h p hp), f.frz, f.dom⟩
/-- what the body's end gives -/
theorem body_end {n : Nat} {m : M Out} {W : WX} {vs : List V} {H : Hp} {Q : VK} {E : XK} (hn : N.length - vs.length = n) (h : spM K ps.length (fnM n m) vs H Q E) (hW : ∀ c d σ H, E c d H → W c d σ H) : tS K (ρof vs) W m { nx := fun _ H' => Q .non H', rt := Q } (L2.start N vs) H := by
  obtain ⟨F, as, os, o, hl, R, e, q⟩ := h
  unfold fnM at e
  have R0 := rep_start (N := N) R
  rw [hn] at R0
  cases z : m (as ++ List.replicate n .un) with
  | none => rw [z] at e; cases e
  | some o' =>
    rw [z] at e
    refine ⟨F, _, os, o', R0, z, ?_⟩
    cases o' with
    | ok r a' =>
      cases r with
      | nx =>
        cases e
        intro F' σ' H' os' R' f
        obtain ⟨o2, q1, q2⟩ := outs_ok f.mono R.sl R'.sl
        exact q F' .non H' o2 (Rep.put ⟨R'.sub, q1, R'.nd.sublist q2, fun p hp => R'.nf p (q2.subset hp)⟩ .non) (fm_sub f fun p hp => q2.subset hp)
      | bk => cases e
      | ct => cases e
      | rt r =>
        cases e
        intro F' v σ' H' os' R' f
        obtain ⟨s1, s2, nd, nf⟩ := R'
        cases s2 with
        | cons h1 r1 =>
          rename_i p1 p2
          obtain ⟨o2, q1, q2⟩ := outs_ok f.mono R.sl r1
          have sb : (p1 ++ o2).Sublist (p1 ++ p2) := List.Sublist.append (List.Sublist.refl _) q2
          exact q F' v H' _ ⟨s1, .cons h1 q1, nd.sublist sb, fun p hp => nf p (sb.subset hp)⟩ (fm_sub f fun p hp => sb.subset hp)
    | ex x a' =>
      cases e
      intro F' σ' H' os' c d R' f rx
      obtain ⟨o2, q1, q2⟩ := outs_ok f.mono R.sl R'.sl
      exact hW _ _ _ _ (q F' H' o2 c d ⟨R'.sub, q1, R'.nd.sublist q2, fun p hp => R'.nf p (q2.subset hp)⟩ (fm_sub f fun p hp => q2.subset hp) rx)
end

/-! ### a def of the text: it does what its body does -/
section
variable {P : Program} {w : World} {K : PySem.W.Frag} {mg : Str → Option Value} {base : Heap} {x qual : Str} {params : Arguments} {body : List Stmt} {scope : Scope} {dvs : List V} {kws : List (Str × V)} {f : Addr} {fd : FuncData} {N ps : List Str} {k n : Nat} {m : M Out}
abbrev WE (E : XK) : WX := fun c d _ H => E c d H
theorem def_ok (D : FunD K x qual params body scope dvs kws f fd) (S : FnScope N ps scope) (hn : N.length - ps.length = n)
    (hb : ∀ (cdv : Value) (A : Around) (outer : List Env) (s : Shared) (H : Hp) (E : XK) (ρ : Nat → Addr), (cxOf (L2.CX P w) P w K mg base N qual scope f cdv A outer s H E).A.guards = some [] → Room k (cxOf (L2.CX P w) P w K mg base N qual scope f cdv A outer s H E).A →
      Takes (cxOf (L2.CX P w) P w K mg base N qual scope f cdv A outer s H E) (WE E) → PassesOwn (model P w) (cxOf (L2.CX P w) P w K mg base N qual scope f cdv A outer s H E).A (cxOf (L2.CX P w) P w K mg base N qual scope f cdv A outer s H E).env (cxOf (L2.CX P w) P w K mg base N qual scope f cdv A outer s H E).xe →
      VSs (cxOf (L2.CX P w) P w K mg base N qual scope f cdv A outer s H E) ρ (WE E) body m) : FnG P w K mg base (L2.CX P w) (k + 1) f fd ps (spM K ps.length (fnM n m)) := by
  obtain ⟨oc, od, dV, kV, doc, pm, an, cdv, ct, osl, rfl, lk, hcd, _, _⟩ := D.ex
  refine fng_of lk hcd S (fun vs H Q E h => h.elim fun _ h => h.elim fun _ h => h.elim fun _ h => h.elim fun _ h => h.1) fun A outer s H vs Q E hg hr hsp => ?_
  have hl : vs.length = ps.length := hsp.elim fun _ h => h.elim fun _ h => h.elim fun _ h => h.elim fun _ h => h.1
  refine ⟨_, hb cdv A outer s H E (ρof vs) hg hr (takes_of rfl rfl rfl rfl) (passes_of rfl), ?_⟩
  exact body_end (ps := ps) (E := E) (by rw [hl]; exact hn) hsp (fun _ _ _ _ z => z)
end
end L3
end
section
namespace L3
open PySem PySem.Spec PyProof.Rows L2
/-- fewer addresses, none twice -/
def SubP (a b : List Addr) : Prop := (b.Nodup → a.Nodup) ∧ ∀ x ∈ a, x ∈ b
theorem SubP.trans {a b c : List Addr} (h : SubP a b) (g : SubP b c) : SubP a c := ⟨fun n => h.1 (g.1 n), fun x hx => g.2 x (h.2 x hx)⟩
theorem SubP.sub {a b : List Addr} (h : a.Sublist b) : SubP a b := ⟨fun n => n.sublist h, fun _ hx => h.subset hx⟩
theorem SubP.perm {a b : List Addr} (h : a.Perm b) : SubP a b := ⟨fun n => perm_nodup h.symm n, fun _ hx => h.mem_iff.mp hx⟩
theorem SubP.app {a b : List Addr} (c : List Addr) (h : SubP a b) : SubP (c ++ a) (c ++ b) :=
  ⟨fun n => let m := List.nodup_append.mp n; nodup_app m.1 (h.1 m.2.1) fun x h1 h2 => m.2.2 x h1 x (h.2 x h2) rfl, fun x hx => (List.mem_append.mp hx).elim (fun q => List.mem_append_left _ q) fun q => List.mem_append_right _ (h.2 x q)⟩
/-- an argument: frozen, or what a name's slot holds -/
inductive Ag where
  | v (d : D) | b (i : Nat)
/-- the callee's slots; what is lent leaves its slot -/
def toSl : Nat → List Ag → AS → Option (List Sl × AS)
  | _, [], a => some ([], a)
  | k, .v d :: gs, a => (match toSl (k + 1) gs a with
    | some (l, a') => some (.fr d :: l, a')
    | none => none)
  | k, .b i :: gs, a => (match a[i]? with
    | some (.fr d) => (match toSl (k + 1) gs a with
      | some (l, a') => some (.fr d :: l, a')
      | none => none)
    | some (.ow _ o) => (match toSl (k + 1) gs (a.set i .un) with
      | some (l, a') => some (.ow (some k) o :: l, a')
      | none => none)
    | _ => none)
def retag (t : Option Nat) : Sl → Sl
  | .ow _ o => .ow t o
  | s => s
/-- what was lent comes back -/
def backSl (a0 : AS) : List Ag → List Sl → AS → Option AS
  | [], _, a => some a
  | .v _ :: gs, _ :: ss, a => backSl a0 gs ss a
  | .b i :: gs, s :: ss, a => (match a0[i]? with
    | some (.ow t _) => (match a[i]? with
      | some .un => backSl a0 gs ss (a.set i (retag t s))
      | _ => none)
    | _ => backSl a0 gs ss a)
  | _, _, _ => none
def mCl (f : FM) (mg : M (List Ag)) (dds : List D) : M Sl := bnd mg fun gs => fun a => match toSl 0 gs a with
  | none => none
  | some (as, a1) => (match f (as ++ dds.map .fr) with
    | none => none
    | some (.ok r as') => (match backSl a gs as' a1 with
      | some a2 => some (.ok (retag none r) a2)
      | none => none)
    | some (.ex x as') => (match backSl a gs as' a1 with
      | some a2 => some (.ex x a2)
      | none => none))
section
variable {K : PySem.W.Frag} {ρ ρ' : Nat → Addr} {F F' H H' : Hp}
inductive RepAg (K : PySem.W.Frag) (F : Hp) (σ : L2.St) : List V → List Ag → Prop
  | nil : RepAg K F σ [] []
  | v {v : V} {d : D} {vs : List V} {gs : List Ag} : RepD K F v d → RepAg K F σ vs gs → RepAg K F σ (v :: vs) (.v d :: gs)
  | b {v : V} {i : Nat} {vs : List V} {gs : List Ag} : σ[i]? = some (some v) → RepAg K F σ vs gs → RepAg K F σ (v :: vs) (.b i :: gs)
theorem RepAg.mono {σ : L2.St} (s : HSub F F') : ∀ {vs : List V} {gs : List Ag}, RepAg K F σ vs gs → RepAg K F' σ vs gs
  | _, _, .nil => .nil
  | _, _, .v h r => .v (h.mono s) (r.mono s)
  | _, _, .b h r => .b h (r.mono s)
theorem RepAg.length {σ : L2.St} : ∀ {vs : List V} {gs : List Ag}, RepAg K F σ vs gs → vs.length = gs.length
  | _, _, .nil => rfl
  | _, _, .v _ r => congrArg (· + 1) r.length
  | _, _, .b _ r => congrArg (· + 1) r.length
theorem zip_set {σ : L2.St} {a : AS} {i : Nat} {v : Option V} {s : Sl} (h : σ[i]? = some v) : σ.zip (a.set i s) = (σ.zip a).set i (v, s) := by
  have e := set_same h
  conv => lhs; rw [← e]
  rw [List.zip_eq_zipWith, List.zip_eq_zipWith]
  induction σ generalizing a i with
  | nil => simp at h
  | cons x xs ih =>
    cases a with
    | nil => simp
    | cons y ys =>
      cases i with
      | zero => simp
      | succ i =>
        simp only [List.set_cons_succ, List.zipWith_cons_cons]
        rw [ih (by simpa using h) (set_same (by simpa using h))]
theorem zip_at {σ : L2.St} {a : AS} {i : Nat} {v : Option V} {s : Sl} (h : σ[i]? = some v) (h2 : a[i]? = some s) : (σ.zip a)[i]? = some (v, s) := by
  rw [List.getElem?_zip_eq_some]
  exact ⟨h, h2⟩
theorem RepS.re {v : Option V} {s : Sl} {os : List Addr} {t : Option Nat} (h : RepS K ρ F H v s os) (q : ∀ p, v = some (.ref p) → ∀ k, t = some k → ρ' k = p) : RepS K ρ' F H v (retag t s) os := by
  cases h with
  | un => exact .un
  | fr h => exact .fr h
  | ow h _ => exact .ow h (q _ rfl)
/-- lent -/
theorem lend {σ : L2.St} : ∀ {gs : List Ag} {vs : List V} {k : Nat} {a a1 : AS} {as : List Sl} {os : List Addr}, RepAg K F σ vs gs → RepP K ρ F H (σ.zip a) os → σ.length = a.length → toSl k gs a = some (as, a1) → (∀ j p, vs[j]? = some (.ref p) → ρ' (k + j) = p) →
    ∃ oB oA, RepP K ρ' F H ((vs.map some).zip as) oB ∧ RepP K ρ F H (σ.zip a1) oA ∧ os.Perm (oB ++ oA) ∧ a1.length = a.length ∧ as.length = vs.length
  | [], _, k, a, a1, as, os, .nil, R, hl, e, hr => by
    simp [toSl] at e
    obtain ⟨rfl, rfl⟩ := e
    exact ⟨[], os, .nil, R, .refl _, rfl, rfl⟩
  | .v d :: gs, v :: vs, k, a, a1, as, os, .v h r, R, hl, e, hr => by
    simp only [toSl] at e
    split at e
    · rename_i l a' z
      cases e
      obtain ⟨oB, oA, q1, q2, q3, q4, q5⟩ := lend r R hl z fun j p ej => by
        have := hr (j + 1) p (by simpa using ej)
        rw [← this]; congr 1; omega
      exact ⟨oB, oA, .cons (o1 := []) (.fr h) q1, q2, q3, q4, by simp [q5]⟩
    · cases e
  | .b i :: gs, v :: vs, k, a, a1, as, os, .b h r, R, hl, e, hr => by
    have hr' : ∀ j p, vs[j]? = some (.ref p) → ρ' (k + 1 + j) = p := fun j p ej => by
      have := hr (j + 1) p (by simpa using ej)
      rw [← this]; congr 1; omega
    simp only [toSl] at e
    split at e
    · rename_i d z
      split at e
      · rename_i l a' z2
        cases e
        have hd : RepD K F v d := by
          obtain ⟨w, _, _, _, e1, _, h1, _⟩ := (R.s hl).zip z
          rw [h] at e1
          cases e1
          cases h1
          assumption
        obtain ⟨oB, oA, q1, q2, q3, q4, q5⟩ := lend r R hl z2 hr'
        exact ⟨oB, oA, .cons (o1 := []) (.fr hd) q1, q2, q3, q4, by simp [q5]⟩
      · cases e
    · rename_i t o z
      split at e
      · rename_i l a' z2
        cases e
        obtain ⟨o1, r1, p1⟩ := RepP.out (B := []) (by simpa using R) (zip_at h z)
        obtain ⟨x1, x2, rfl, r2, r3⟩ := RepP.split r1
        rw [← zip_set h] at r3
        have h0 : RepS K ρ F H (some v) (.ow t o) x1 := by
          cases r2 with
          | cons h0 r0 =>
            cases r0
            simpa using h0
        obtain ⟨oB, oA, q1, q2, q3, q4, q5⟩ := lend r r3 (by simpa using hl) z2 hr'
        refine ⟨x1 ++ oB, oA, .cons (RepS.re (t := some k) h0 fun p ep k' ek => ?_) q1, q2, ?_, by simpa using q4, by simp [q5]⟩
        · cases ek
          cases ep
          exact hr 0 p rfl
        · rw [List.append_assoc]
          exact p1.trans (List.Perm.append_left _ q3)
      · cases e
    · cases e
/-- back -/
theorem unlend {σ : L2.St} {a0 : AS} {os0 : List Addr} {F0 H0 : Hp} (R0 : RepSs K ρ F0 H0 σ a0 os0) : ∀ {gs : List Ag} {vs : List V} {a a2 : AS} {as : List Sl} {os oB : List Addr}, RepAg K F σ vs gs → RepP K ρ F H (σ.zip a) os → σ.length = a.length → RepP K ρ' F H ((vs.map some).zip as) oB → backSl a0 gs as a = some a2 →
    ∃ os2, RepP K ρ F H (σ.zip a2) os2 ∧ σ.length = a2.length ∧ SubP os2 (oB ++ os)
  | [], _, a, a2, as, os, oB, .nil, R, hl, RB, e => by
    simp [backSl] at e
    subst e
    exact ⟨os, R, hl, SubP.sub (List.sublist_append_right _ _)⟩
  | .v d :: gs, v :: vs, a, a2, [], os, oB, .v h r, R, hl, RB, e => by simp [backSl] at e
  | .v d :: gs, v :: vs, a, a2, s :: as, os, oB, .v h r, R, hl, RB, e => by
    simp only [backSl] at e
    cases RB with
    | cons h1 r1 =>
      obtain ⟨os2, q1, q2, q3⟩ := unlend R0 r R hl r1 e
      refine ⟨os2, q1, q2, q3.trans ?_⟩
      rw [List.append_assoc]
      exact SubP.sub (List.sublist_append_right _ _)
  | .b i :: gs, v :: vs, a, a2, [], os, oB, .b h r, R, hl, RB, e => by simp [backSl] at e
  | .b i :: gs, v :: vs, a, a2, s :: as, os, oB, .b h r, R, hl, RB, e => by
    simp only [backSl] at e
    cases RB with
    | cons h1 r1 =>
      rename_i p1 p2
      split at e
      · rename_i t o z
        split at e
        · rename_i z2
          obtain ⟨w, _, _, _, e1, _, hw, _⟩ := R0.zip z
          rw [h] at e1
          cases e1
          have h2 : RepS K ρ F H (some v) (retag t s) p1 := RepS.re (ρ := ρ') (by simpa using h1) fun p ep k ek => by
            cases ep
            cases hw with
            | ow _ t2 => exact t2 k ek
          obtain ⟨o1, q1, q2⟩ := RepP.back (B := []) (by simpa using RepP.cons (p := (some v, retag t s)) h2 R) (zip_at h z2)
          rw [List.nil_append, ← zip_set h] at q1
          obtain ⟨os2, w1, w2, w3⟩ := unlend R0 r q1 (by simpa using hl) r1 e
          refine ⟨os2, w1, w2, w3.trans ?_⟩
          have : (p2 ++ o1).Perm (p1 ++ p2 ++ os) := by
            refine (List.Perm.append_left p2 q2.symm).trans ?_
            rw [← List.append_assoc]
            exact List.Perm.append_right _ List.perm_append_comm
          exact SubP.perm this
        · cases e
      · obtain ⟨os2, q1, q2, q3⟩ := unlend R0 r R hl r1 e
        refine ⟨os2, q1, q2, q3.trans ?_⟩
        rw [List.append_assoc]
        exact SubP.sub (List.sublist_append_right _ _)
end

/-! ### arguments -/
section
variable {X : Cx} {ρ : Nat → Addr} {W : WX} {K : PySem.W.Frag} {e1 e2 e3 o : Expr} {mA mB mC : M D} {ms : M Sl} {es : List Expr} {pos p apos : Pos} {x : Str} {mg : M (List Ag)}
def tAg (K : PySem.W.Frag) (ρ : Nat → Addr) (W : WX) (m : M (List Ag)) : TA := fun σ H Q => ∃ F a os o, Rep K ρ F H σ a os ∧ m a = some o ∧ match o with
  | .ok gs a' => ∀ F' vs H' os', RepAg K F' σ vs gs → Rep K ρ F' H' σ a' os' → Fm F H os F' H' os' → Q vs H'
  | .ex x a' => exOf K ρ W F H os x a' σ
abbrev VAg (X : Cx) (ρ : Nat → Addr) (W : WX) (es : List Expr) (m : M (List Ag)) : Prop := PA X es (tAg X.K ρ W m)
theorem tAg.bind {β : Type} {m : M (List Ag)} {f : List Ag → M β} {σ : L2.St} {H F : Hp} {a : AS} {os : List Addr} {o : Er β} {Q : List V → Hp → Prop} (R : Rep K ρ F H σ a os) (e : bnd m f a = some o)
    (hx : ∀ x a', o = .ex x a' → exOf K ρ W F H os x a' σ)
    (h : ∀ gs a1 F1 vs H1 o1, f gs a1 = some o → RepAg K F1 σ vs gs → Rep K ρ F1 H1 σ a1 o1 → Fm F H os F1 H1 o1 → Q vs H1) : tAg K ρ W m σ H Q := by
  cases q : m a with
  | none => simp [bnd, q] at e
  | some r =>
    cases r with
    | ok d a1 =>
      simp [bnd, q] at e
      exact ⟨F, a, os, _, R, q, fun F' v H' os' rd R' fm => h d a1 F' v H' os' e rd R' fm⟩
    | ex x a1 =>
      simp [bnd, q] at e
      exact ⟨F, a, os, _, R, q, hx x a1 e.symm⟩
def gNil : M (List Ag) := ret []
def gV (m : M D) (r : M (List Ag)) : M (List Ag) := bnd m fun d => bnd r fun gs => ret (.v d :: gs)
def gB (i : Nat) (r : M (List Ag)) : M (List Ag) := fun a => match a[i]? with
  | some .un => none
  | none => none
  | _ => bnd r (fun gs => ret (.b i :: gs)) a
theorem vag_nil : VAg X ρ W [] gNil := PA.imp pa_nil fun σ H Q ⟨F, a, os, o, R, e, q⟩ => by
  simp [gNil, ret] at e
  subst e
  exact q F [] H os .nil R Fm.refl
theorem vag_v (ha : VD X ρ W e1 mA) (hr : VAg X ρ W es mg) (hs : starEach (e1 :: es) X.env = (false, eval e1 X.env) :: starEach es X.env := by rfl) : VAg X ρ W (e1 :: es) (gV mA mg) := PA.imp (pa_cons ha hr hs) fun σ H Q ⟨F, a, os, o, R, e, q⟩ => by
  refine tD.bind R e (fun x a' z => by subst z; exact q) fun x a1 F1 v1 H1 o1 e1 r1 R1 f1 => ?_
  refine tAg.bind R1 e1 (fun x a' z => by subst z; exact exOf.step q f1) fun xs a2 F2 vs H2 o2 e2 r2 R2 f2 => ?_
  simp [ret] at e2
  subst e2
  exact q F2 _ H2 o2 (.v (r1.mono f2.mono) r2) R2 (f1.trans f2)
theorem vag_b (i : Nat) (hn : PE X e1 (tVar i)) (hr : VAg X ρ W es mg) (hs : starEach (e1 :: es) X.env = (false, eval e1 X.env) :: starEach es X.env := by rfl) : VAg X ρ W (e1 :: es) (gB i mg) := PA.imp (pa_cons hn hr hs) fun σ H Q ⟨F, a, os, o, R, e, q⟩ => by
  have hv : ∃ v, σ[i]? = some (some v) ∧ bnd mg (fun gs => ret (.b i :: gs)) a = some o := by
    unfold gB at e
    cases z : a[i]? with
    | none => rw [z] at e; cases e
    | some s =>
      rw [z] at e
      obtain ⟨w, _, _, _, e1, _, h1, _⟩ := R.sl.zip z
      cases h1 with
      | un => cases e
      | fr h => exact ⟨_, e1, e⟩
      | ow h t => exact ⟨_, e1, e⟩
  obtain ⟨v, hv, e⟩ := hv
  refine ⟨v, hv, ?_⟩
  refine tAg.bind R e (fun x a' z => by subst z; exact q) fun xs a2 F2 vs H2 o2 e2 r2 R2 f2 => ?_
  simp [ret] at e2
  subst e2
  exact q F2 _ H2 o2 (.b hv r2) R2 f2

/-! ### the call -/
theorem rhoOf (vs : List V) : ∀ j p, vs[j]? = some (.ref p) → ρof vs j = p := fun j p e => by unfold ρof; rw [e]
theorem repP_fr {ρ' : Nat → Addr} {F H : Hp} : ∀ {vs : List V} {ds : List D}, RepL K F vs ds → RepP K ρ' F H ((vs.map some).zip (ds.map Sl.fr)) []
  | _, _, .nil => .nil
  | _, _, .cons h r => .cons (o1 := []) (.fr h) (repP_fr r)
theorem repP_zip {ρ' : Nat → Addr} {F H : Hp} {vs ws : List V} {as bs : List Sl} {o1 : List Addr} (h : RepP K ρ' F H ((vs.map some).zip as) o1) (hl : as.length = vs.length) (h2 : RepP K ρ' F H ((ws.map some).zip bs) []) : RepP K ρ' F H (((vs ++ ws).map some).zip (as ++ bs)) o1 := by
  rw [List.map_append, List.zip_append (by simp [hl])]
  have := h.append h2
  simpa using this
theorem call_ok {n : Nat} {f : FM} {dds : List D} {dvs : List V} {σ : L2.St} {H F : Hp} {a : AS} {os : List Addr} {gs : List Ag} {vs : List V} {oo : Er Sl} {Q : VK} {E : XK} (hd : ∀ F, RepL K F dvs dds) (hn : (vs ++ dvs).length = n) (R : Rep K ρ F H σ a os) (ra : RepAg K F σ vs gs)
    (e : (match toSl 0 gs a with
      | none => none
      | some (as, a1) => (match f (as ++ dds.map .fr) with
        | none => none
        | some (.ok r as') => (match backSl a gs as' a1 with
          | some a2 => some (.ok (retag none r) a2)
          | none => none)
        | some (.ex x as') => (match backSl a gs as' a1 with
          | some a2 => some (.ex x a2)
          | none => none)) : Option (Er Sl)) = some oo)
    (q : match oo with
      | .ok r a' => ∀ F' v H' os', Rep K ρ F' H' (some v :: σ) (r :: a') os' → Fm F H os F' H' os' → Q v H'
      | .ex x a' => ∀ F' H' os' c d, Rep K ρ F' H' σ a' os' → Fm F H os F' H' os' → RepX K F' x c d → E c d H') : spM K n f (vs ++ dvs) H Q E := by
  cases z : toSl 0 gs a with
  | none => rw [z] at e; cases e
  | some w =>
    obtain ⟨as, a1⟩ := w
    rw [z] at e
    have hl := R.sl.length
    obtain ⟨oB, oA, rB, rA, pm, l1, l2⟩ := lend (ρ' := ρof (vs ++ dvs)) ra R.sl.p hl z fun j p ej => by
      rw [Nat.zero_add]
      refine rhoOf _ j p ?_
      rw [List.getElem?_append_left (List.getElem?_eq_some_iff.mp ej).1]
      exact ej
    have rB' := repP_zip rB l2 (repP_fr (hd F))
    have nd : (oB ++ oA).Nodup := perm_nodup pm R.nd
    have ndd := List.nodup_append.mp nd
    have inA : ∀ p ∈ oA, p ∈ os := fun p hp => pm.mem_iff.mpr (List.mem_append_right _ hp)
    have inB : ∀ p ∈ oB, p ∈ os := fun p hp => pm.mem_iff.mpr (List.mem_append_left _ hp)
    have RB : Rep K (ρof (vs ++ dvs)) F H ((vs ++ dvs).map some) (as ++ dds.map .fr) oB := ⟨R.sub, rB'.s (by simp [l2, (hd F).length]), ndd.1, fun p hp => R.nf p (inB p hp)⟩
    -- what stands while the callee runs
    have keepA : ∀ {F' H' : Hp} {o2 : List Addr}, Fm F H oB F' H' o2 → ∀ p ∈ oA, H' p = H p := fun {F' H' o2} fm p hp => by
      cases q : H p with
      | none => exact absurd q (R.dom (inA p hp))
      | some u => exact fm.keep p u q fun hb => ndd.2.2 p hb p hp rfl
    have fin : ∀ {F' H' : Hp} {o2 : List Addr} {as' : List Sl} {a2 : AS} {o3 : List Addr}, Fm F H oB F' H' o2 → (∀ p ∈ o3, p ∈ o2) → backSl a gs as' a1 = some a2 → RepP K (ρof (vs ++ dvs)) F' H' (((vs ++ dvs).map some).zip as') o3 → ∃ os2, RepP K ρ F' H' (σ.zip a2) os2 ∧ σ.length = a2.length ∧ SubP os2 (o3 ++ oA) := fun {F' H' o2 as' a2 o3} fm s3 eb rb => by
      have split : ∃ o4, RepP K (ρof (vs ++ dvs)) F' H' ((vs.map some).zip as') o4 ∧ o4.Sublist o3 := by
        have key : ∀ (us ws : List V) (bs : List Sl) (oo : List Addr), RepP K (ρof (vs ++ dvs)) F' H' (((us ++ ws).map some).zip bs) oo → ∃ o4, RepP K (ρof (vs ++ dvs)) F' H' ((us.map some).zip bs) o4 ∧ o4.Sublist oo := fun us => by
          induction us with
          | nil => exact fun ws bs oo _ => ⟨[], .nil, List.nil_sublist _⟩
          | cons u us ih =>
            intro ws bs oo r
            cases bs with
            | nil => exact ⟨[], .nil, List.nil_sublist _⟩
            | cons b bs =>
              cases r with
              | cons h r =>
                obtain ⟨o4, r4, s4⟩ := ih ws bs _ r
                exact ⟨_, .cons h r4, List.Sublist.append (List.Sublist.refl _) s4⟩
        exact key vs dvs as' o3 rb
      obtain ⟨o4, r4, s4⟩ := split
      obtain ⟨os2, w1, w2, w3⟩ := unlend (R.sl) (ra.mono fm.mono) (rA.move fm.mono (keepA fm)) (by rw [l1]; exact hl) r4 eb
      exact ⟨os2, w1, w2, w3.trans (SubP.sub (List.Sublist.append s4 (List.Sublist.refl _)))⟩
    have ndF : ∀ {F' H' : Hp} {o2 : List Addr}, Fm F H oB F' H' o2 → o2.Nodup → (o2 ++ oA).Nodup := fun {F' H' o2} fm n2 => nodup_app n2 ndd.2.1 fun p h1 h2 => (fm.own p h1).elim (fun h => ndd.2.2 p h p h2 rfl) fun h => R.dom (inA p h2) h
    have nfA : ∀ {F' H' : Hp} {o2 : List Addr}, Fm F H oB F' H' o2 → ∀ p ∈ oA, F' p = none := fun {F' H' o2} fm p hp => by
      cases q : F' p with
      | none => rfl
      | some u => exact ((fm.frz p (R.nf p (inA p hp)) (by rw [q]; simp)).elim (fun h => absurd rfl (ndd.2.2 p h p hp)) fun h => absurd h (R.dom (inA p hp)))
    have fmF : ∀ {F' H' : Hp} {o2 o5 : List Addr}, Fm F H oB F' H' o2 → (∀ p ∈ o5, p ∈ o2 ++ oA) → Fm F H os F' H' o5 := fun {F' H' o2 o5} fm s5 => ⟨fm.mono, fun p u e n => fm.keep p u e fun h => n (inB p h), fun p hp => (List.mem_append.mp (s5 p hp)).elim (fun h => (fm.own p h).elim (fun h => .inl (inB p h)) .inr) fun h => .inl (inA p h), fun p h h' => (fm.frz p h h').elim (fun h => .inl (inB p h)) .inr, fm.dom⟩
    simp only at e
    cases zf : f (as ++ dds.map .fr) with
    | none => rw [zf] at e; cases e
    | some of =>
      rw [zf] at e
      refine ⟨F, _, oB, of, hn, RB, zf, ?_⟩
      cases of with
      | ok r as' =>
        simp only at e
        cases zb : backSl a gs as' a1 with
        | none => rw [zb] at e; cases e
        | some a2 =>
          rw [zb] at e
          cases e
          intro F' v H' os' R' fm
          obtain ⟨s1, s2, n2, f2⟩ := R'
          cases s2 with
          | cons hr rr =>
            rename_i x1 x2
            obtain ⟨os2, w1, w2, w3⟩ := fin fm (fun p hp => List.mem_append_right x1 hp) zb rr.p
            have sp2 : SubP (x1 ++ os2) ((x1 ++ x2) ++ oA) := by
              rw [List.append_assoc]
              exact w3.app x1
            have nd2 := ndF fm n2
            refine q F' v H' (x1 ++ os2) ⟨s1, .cons (RepS.re (t := none) hr fun p _ k ek => by cases ek) (w1.s w2), sp2.1 nd2, fun p hp => ?_⟩ (fmF fm fun p hp => sp2.2 p hp)
            rcases List.mem_append.mp (sp2.2 p hp) with h | h
            · exact f2 p h
            · exact nfA fm p h
      | ex x as' =>
        simp only at e
        cases zb : backSl a gs as' a1 with
        | none => rw [zb] at e; cases e
        | some a2 =>
          rw [zb] at e
          cases e
          intro F' H' os' c d R' fm rx
          obtain ⟨os2, w1, w2, w3⟩ := fin fm (fun p hp => hp) zb R'.sl.p
          have nd2 := ndF fm R'.nd
          refine q F' H' os2 c d ⟨R'.sub, w1.s w2, w3.1 nd2, fun p hp => ?_⟩ (fmF fm fun p hp => w3.2 p hp) rx
          rcases List.mem_append.mp (w3.2 p hp) with h | h
          · exact R'.nf p h
          · exact nfA fm p h

variable {CX : CXT} {k : Nat} {f : Addr} {fd : FuncData} {ps ks : List Str} {sp : Sp} {dvs : List V} {ds : List Value} {dds : List D} {fm : FM}
theorem run_fng {pins : List (Addr × Obj)} {σ : L2.St} {H : Hp} {s : Shared} {Q : VK} {us : List Value} {vs : List V} (G : FnG X.prog X.w X.K X.mg X.base (L2.CX X.prog X.w) k f fd ps sp) (hgd : X.A.guards = some []) (hr : Room k X.A) (hb : Binds X.K fd ps ds) (hd : Vals dvs ds) (tk : Takes X W)
    (I : Inv X pins σ H s) (r : Vals vs us) (h : sp (vs ++ dvs) H Q fun c d H => W c d σ H) : wpAny (model X.prog X.w) X.A (call (.ref f) us) (EP X pins σ Q) X.xe s := by
  have r2 := r.append hd
  have hl : (us ++ ds).length = ps.length := by
    rw [← r2.length]
    exact G.len _ _ _ _ h
  refine wpAny_call (codeAny_mono (G.run X.A X.stack s H ⟨us, []⟩ (us ++ ds) (vs ++ dvs) Q _ hgd hr I.env0 (hb s us I.kIn hl) r2 h) fun r s' hq => ?_)
  cases r with
  | error e => exact L2.passAt tk σ pins H s e s' I hq
  | ok fl =>
    cases fl with
    | ret u => exact I.after hq
    | next => exact hq.elim
    | brk => exact hq.elim
    | cont => exact hq.elim
theorem pe_callG {t : TA} (G : FnG X.prog X.w X.K X.mg X.base (L2.CX X.prog X.w) k f fd ps sp) (hgd : X.A.guards = some []) (hr : Room k X.A) (hg : Gl X x) (hm : X.mg x = some (.ref f)) (hk : PySem.W.keepIn X.K (.ref f) = true) (hb : Binds X.K fd ps ds) (hd : Vals dvs ds) (tk : Takes X W)
    (ha : PA X (e1 :: es) t) (hdb : (x == ("__debug__" : Str)) = false := by decide) (he : starEach (e1 :: es) X.env = (false, eval e1 X.env) :: starEach es X.env := by rfl) (hpl : (backTo pos (starEach es X.env)).any (·.1) = false := by rfl) :
    PE X (.Call (.Name x p) (e1 :: es) [] pos) (tCallSD sp dvs (fun σ c d H => W c d σ H) t) := by
  refine ⟨fun pins s σ H Q I h => ?_⟩
  refine wpAny_Call_Name_kw (ld_glob I hg hm ?_ hdb)
  refine PySem.W.callWith_K (h₀ := X.base) I.ok.mod.kin hk (thn (ha.run pos pins s σ H _ I h) fun us s1 ⟨vs, H1, I1, r, q⟩ => ⟨I1.kIn, ?_⟩) he hpl
  exact run_fng G hgd hr hb hd tk I1 r q
theorem tcall_ok {n : Nat} {σ : L2.St} {H : Hp} {Q : VK} {l : Nat} (hn : ∀ vs : List V, vs.length = l → (vs ++ dvs).length = n) (hdd : ∀ F, RepL X.K F dvs dds) (hl : ∀ a gs a', mg a = some (.ok gs a') → gs.length = l) (h : tE X.K ρ W (mCl fm mg dds) σ H Q) :
    tCallSD (spM X.K n fm) dvs (fun σ c d H => W c d σ H) (tAg X.K ρ W mg) σ H Q := by
  obtain ⟨F, a, os, o, R, e, q⟩ := h
  cases z : mg a with
  | none => simp [mCl, bnd, z] at e
  | some o' =>
    cases o' with
    | ex x a' =>
      simp [mCl, bnd, z] at e
      subst e
      exact ⟨F, a, os, _, R, z, q⟩
    | ok gs a1 =>
      have hg := hl _ _ _ z
      simp only [mCl, bnd, z] at e
      refine ⟨F, a, os, _, R, z, fun F1 vs H1 o1 ra R1 f1 => ?_⟩
      refine call_ok hdd (hn vs (by rw [ra.length]; exact hg)) R1 ra e ?_
      cases o with
      | ok r a' => exact fun F' v H' os' R' f' => q F' v H' os' R' (f1.trans f')
      | ex x a' => exact fun F' H' os' c d R' f' rx => q F' H' os' c d R' (f1.trans f') rx
/-- the number of arguments -/
def AgLen (m : M (List Ag)) (l : Nat) : Prop := ∀ a gs a', m a = some (.ok gs a') → gs.length = l
theorem agl_nil : AgLen gNil 0 := fun a gs a' e => by simp [gNil, ret] at e; rw [e.1]; rfl
theorem agl_v {r : M (List Ag)} {l : Nat} (h : AgLen r l) : AgLen (gV mA r) (l + 1) := fun a gs a' e => by
  unfold gV bnd at e
  cases z : mA a with
  | none => rw [z] at e; cases e
  | some o =>
    rw [z] at e
    cases o with
    | ex x a1 => cases e
    | ok d a1 =>
      simp only at e
      cases z2 : r a1 with
      | none => rw [z2] at e; cases e
      | some o2 =>
        rw [z2] at e
        cases o2 with
        | ex x a2 => cases e
        | ok gs2 a2 =>
          simp [ret] at e
          rw [← e.1, List.length_cons, h _ _ _ z2]
theorem agl_b {i : Nat} {r : M (List Ag)} {l : Nat} (h : AgLen r l) : AgLen (gB i r) (l + 1) := fun a gs a' e => by
  have : ∀ {o : Option (Er (List Ag))}, bnd r (fun gs => ret (.b i :: gs)) a = o → o = some (.ok gs a') → gs.length = l + 1 := fun {o} e1 e2 => by
    rw [e2] at e1
    unfold bnd at e1
    cases z2 : r a with
    | none => rw [z2] at e1; cases e1
    | some o2 =>
      rw [z2] at e1
      cases o2 with
      | ex x a2 => cases e1
      | ok gs2 a2 =>
        simp [ret] at e1
        rw [← e1.1, List.length_cons, h _ _ _ z2]
  unfold gB at e
  split at e
  · cases e
  · cases e
  · exact this e rfl
/-- f(e, ..), f a def of the module -/
theorem ve_call {l : Nat} (G : FnG X.prog X.w X.K X.mg X.base (L2.CX X.prog X.w) k f fd ps (spM X.K ps.length fm)) (hgd : X.A.guards = some []) (hr : Room k X.A) (hg : Gl X x) (hm : X.mg x = some (.ref f)) (hk : PySem.W.keepIn X.K (.ref f) = true) (hb : Binds X.K fd ps ds) (hd : Vals dvs ds) (hdd : ∀ F, RepL X.K F dvs dds) (tk : Takes X W)
    (ha : VAg X ρ W (e1 :: es) mg) (hl : AgLen mg l) (hn : l + dvs.length = ps.length := by rfl) (hdb : (x == ("__debug__" : Str)) = false := by decide) (he : starEach (e1 :: es) X.env = (false, eval e1 X.env) :: starEach es X.env := by rfl) (hpl : (backTo pos (starEach es X.env)).any (·.1) = false := by rfl) :
    VE X ρ W (.Call (.Name x p) (e1 :: es) [] pos) (mCl fm mg dds) := PE.imp (pe_callG G hgd hr hg hm hk hb hd tk ha hdb he hpl) fun _ _ _ h => tcall_ok (fun vs h => by rw [List.length_append, h]; exact hn) hdd hl h
end
end L3
end
section
namespace L3
open PySem PySem.Spec PyProof.Rows L2
section
variable {X : Cx} {ρ : Nat → Addr} {W : WX} {K : PySem.W.Frag} {e1 e2 e3 o : Expr} {mA mB mC : M D} {ms : M Sl} {es : List Expr} {pos p apos : Pos} {x : Str}
/-- an owned list that is changed -/
theorem Rep.lstAt {F H : Hp} {σ : L2.St} {a : AS} {os : List Addr} {i : Nat} {t : Option Nat} {l : List D} (R : Rep K ρ F H σ a os) (e : a[i]? = some (.ow t (.lst l))) :
    ∃ q vs, σ[i]? = some (some (.ref q)) ∧ H q = some (.lst vs) ∧ RepL K F vs l ∧ ∀ (vs' : List V) (l' : List D), RepL K F vs' l' → Rep K ρ F (upd H q (.lst vs')) σ (a.set i (.ow t (.lst l'))) os ∧ Fm F H os F (upd H q (.lst vs')) os := by
  obtain ⟨v, o1, oi, o2, e1, e2, h1, h2⟩ := R.sl.zip e
  cases h1 with
  | ow h ht =>
    cases h with
    | lst h r =>
      rename_i q vs
      subst e2
      have nd := R.nd
      rw [List.append_assoc, List.nodup_append, List.nodup_append] at nd
      have ne : ∀ p ∈ o1 ++ o2, p ≠ q := fun p hp z => by
        rcases List.mem_append.mp hp with hp | hp
        · exact nd.2.2 p hp q (by simp) z
        · exact nd.2.1.2.2 q (by simp) p hp z.symm
      have nq : F q = none := R.nf q (by simp)
      refine ⟨q, vs, e1, h, r, fun vs' l' r' => ⟨⟨fun p u z => ?_, ?_, R.nd, R.nf⟩, Fm.app (by simp) (by rw [h]; simp)⟩⟩
      · rw [upd_ne fun z2 => by rw [z2, nq] at z; cases z]
        exact R.sub p u z
      · have z := h2 F (upd H q (.lst vs')) (some (.ref q)) (.ow t (.lst l')) [q] (fun _ _ e => e) (fun p hp => upd_ne (ne p hp)) (.ow (.lst upd_same r') ht)
        rw [set_same e1] at z
        exact z
/-- x.append(e) -/
def mApp (i : Nat) (m : M D) : M Sl := bnd (mView i) fun v => match v with
  | .lst _ => bnd m fun d => fun a => match a[i]? with
    | some (.ow t (.lst l)) => if l.length < sizeLine then some (.ok (.fr .non) (a.set i (.ow t (.lst (l ++ [d]))))) else none
    | _ => none
  | _ => fun _ => none
theorem ve_app (i : Nat) (hn : PE X o (tVar i)) (ha : VD X ρ W e1 mA) (pe : PE X (.Call (.Attribute o "append" apos) [e1] [] pos) (tBM X.K "list" rAppend (tVar i) (tCons (tD X.K ρ W mA) tNil))) : VE X ρ W (.Call (.Attribute o "append" apos) [e1] [] pos) (mApp i mA) :=
  PE.imp pe fun σ H Q ⟨F, a, os, o, R, e, q⟩ => by
    obtain ⟨d, v, e1, ev, h⟩ := view_bnd R e
    refine ⟨v, ev, ?_⟩
    cases d with
    | lst l0 =>
      have ty : tyV X.K "list" v H := by
        cases h with
        | fr h => cases h with
          | lst h _ => exact .inl ⟨rfl, _, SqL.of (R.sub _ _ h)⟩
        | lst h _ => exact .inl ⟨rfl, _, SqL.of h⟩
      refine ⟨ty, ?_⟩
      refine tD.bind R e1 (fun x a' z => by subst z; exact q) fun d a1 F1 w H1 o1 e2 r1 R1 f1 => ?_
      split at e2
      · rename_i t l z
        split at e2
        · rename_i hz
          cases e2
          obtain ⟨q0, vs, ev2, hq, rl, up⟩ := R1.lstAt z
          rw [ev] at ev2
          cases ev2
          obtain ⟨R2, f2⟩ := up _ _ (rl.append (.cons r1 .nil))
          exact ⟨q0, vs, w, rfl, rfl, hq, by rw [rl.length]; exact hz, q F1 .non _ o1 (R2.put .non) (f1.trans f2)⟩
        · cases e2
      · cases e2
    | _ => cases e1
/-- x[i] = e -/
def mSetI (k : Nat) (mi m : M D) : M Out := bnd m fun d => bnd (mView k) fun _ => bnd mi fun j => fun a => match a[k]?, j with
  | some (.ow t (.lst l)), .int z => (match ixN l.length z with
    | some n => some (.ok .nx (a.set k (.ow t (.lst (l.set n d)))))
    | none => none)
  | _, _ => none
theorem vs_setI (k : Nat) {q' : Pos} (hn : PE X o (tVar k)) (hi : VD X ρ W e2 mB) (ha : VD X ρ W e1 mA)
    (ps : PS X (.Assign [.Subscript o e2 q'] e1 pos) (tAsg (tD X.K ρ W mA) (gSub (tVar k) (tD X.K ρ W mB) rSetL))) : VS X ρ W (.Assign [.Subscript o e2 q'] e1 pos) (mSetI k mB mA) :=
  PS.imp ps fun D σ H ⟨F, a, os, o, R, e, q⟩ => by
    refine tD.bind R e (fun x a' z => by subst z; exact q.ex) fun d a1 F1 w H1 o1 e1 r1 R1 f1 => ?_
    obtain ⟨d0, v, e2, ev, h⟩ := view_bnd R1 e1
    refine ⟨v, ev, ?_⟩
    refine tD.bind R1 e2 (fun x a' z => by subst z; exact exOf.step q.ex f1) fun j a2 F2 w2 H2 o2 e3 r2 R2 f2 => ?_
    split at e3
    · rename_i t l z hz
      split at e3
      · rename_i n hn
        cases e3
        obtain ⟨q0, vs, ev2, hq, rl, up⟩ := R2.lstAt hz
        rw [ev] at ev2
        cases ev2
        cases r2
        obtain ⟨R3, f3⟩ := up _ _ (rl.set (r1.mono f2.mono) n)
        exact ⟨q0, vs, _, n, rfl, rfl, hq, by rw [rl.length]; exact hn, q F2 σ _ o2 R3 ((f1.trans f2).trans f3)⟩
      · cases e3
    · cases e3
end
end L3
end
section
namespace L3
open PySem PySem.Spec PyProof.Rows L2
/-! ### things that are called -/
/-- the promise, by its arguments alone -/
def spC (K : PySem.W.Frag) (m : FM) : Sp := fun vs => spM K vs.length m vs
/-- a def as it is called: values, then values by the names ks -/
def FnC (P : Program) (w : World) (K : PySem.W.Frag) (mg : Str → Option Value) (base : Heap) (k : Nat) (f : Addr) (ks : List Str) (m : FM) : Prop :=
  ∀ (A : Around) (outer : List Env) (s : Shared) (H : Hp) (us ws : List Value) (vs zs : List V) (Q : VK) (E : XK), A.guards = some [] → Room k A → Env0 P w K mg base A outer s H → Vals vs us → Vals zs ws → zs.length = ks.length → spC K m (vs ++ zs) H Q E →
    codeAny (model P w) A (.call (.ref f) ⟨us, ks.zip ws⟩) (CR (L2.CX P w) outer P w H s Q E) s
theorem FnC.mono {P : Program} {w : World} {K : PySem.W.Frag} {mg : Str → Option Value} {base : Heap} {j k : Nat} {f : Addr} {ks : List Str} {m : FM} (h : FnC P w K mg base j f ks m) (l : j ≤ k) : FnC P w K mg base k f ks m :=
  fun A outer s H us ws vs zs Q E hg hr => h A outer s H us ws vs zs Q E hg (hr.mono l)

def frs : List Sl → Option (List D)
  | [] => some []
  | .fr d :: r => (frs r).map (d :: ·)
  | _ :: _ => none
/-- each owned slot bears its own place -/
def ctag : Nat → List Sl → List Sl
  | _, [] => []
  | k, s :: r => retag (some k) s :: ctag (k + 1) r
section
variable {K : PySem.W.Frag} {ρ ρ' : Nat → Addr} {F F' H H' : Hp}
theorem ctag_length : ∀ {as : List Sl} {k : Nat}, (ctag k as).length = as.length
  | [], _ => rfl
  | _ :: r, k => congrArg (· + 1) (ctag_length (as := r) (k := k + 1))
theorem ctag_ok : ∀ {vs : List V} {as : List Sl} {os : List Addr} {k : Nat}, RepSs K ρ F H (vs.map some) as os → (∀ j p, vs[j]? = some (.ref p) → ρ' (k + j) = p) → RepSs K ρ' F H (vs.map some) (ctag k as) os
  | [], _, _, _, .nil, _ => .nil
  | v :: vs, s :: ss, _, k, .cons h r, q => by
    refine .cons (RepS.re h fun p e k' e' => ?_) (ctag_ok r fun j p e => ?_)
    · cases e; cases e'; exact q 0 p rfl
    · have := q (j + 1) p (by simpa using e)
      rw [← this]; congr 1; omega
theorem RepSs.take (n : Nat) : ∀ {σ : L2.St} {a : AS} {os : List Addr}, RepSs K ρ F H σ a os → ∃ o1, RepSs K ρ F H (σ.take n) (a.take n) o1 ∧ o1.Sublist os := by
  induction n with
  | zero => intro σ a os _; exact ⟨[], by simp; exact .nil, List.nil_sublist _⟩
  | succ n ih =>
    intro σ a os r
    cases r with
    | nil => exact ⟨[], .nil, List.nil_sublist _⟩
    | cons h r =>
      obtain ⟨o1, r1, s1⟩ := ih r
      exact ⟨_, .cons h r1, List.Sublist.append (List.Sublist.refl _) s1⟩
theorem frs_ok : ∀ {vs : List V} {as : List Sl} {ds : List D} {os : List Addr}, RepSs K ρ F H (vs.map some) as os → frs as = some ds → RepL K F vs ds ∧ os = []
  | [], _, _, _, .nil, e => by cases e; exact ⟨.nil, rfl⟩
  | v :: vs, s :: ss, ds, _, .cons h r, e => by
    cases h with
    | un => cases e
    | ow h t => cases e
    | fr h =>
      simp only [frs, Option.map_eq_some_iff] at e
      obtain ⟨l, e1, e2⟩ := e
      subst e2
      obtain ⟨r1, e3⟩ := frs_ok r e1
      exact ⟨.cons h r1, by rw [e3]; rfl⟩
theorem frs_map : ∀ {as : List Sl} {ds : List D}, frs as = some ds → as = ds.map Sl.fr
  | [], _, e => by cases e; rfl
  | .fr d :: r, _, e => by
    simp only [frs, Option.map_eq_some_iff] at e
    obtain ⟨l, e1, e2⟩ := e
    subst e2
    rw [frs_map e1]
    rfl
  | .un :: _, _, e => by cases e
  | .ow _ _ :: _, _, e => by cases e
theorem repSs_fr {vs : List V} {ds : List D} (h : RepL K F vs ds) : RepSs K ρ F H (vs.map some) (ds.map Sl.fr) [] := by
  have : ∀ {vs : List V} {ds : List D}, RepL K F vs ds → RepSs K ρ F H (vs.map some) (ds.map Sl.fr) [] := fun {vs} => by
    induction vs with
    | nil => intro ds h; cases h; exact .nil
    | cons v vs ih => intro ds h; cases h with | cons h r => exact .cons (o1 := []) (.fr h) (ih r)
  exact this h
end
/-- n values as they are, then what the frozen ones give -/
def argM (n j : Nat) (π : List D → Option (List D)) (fm : FM) : FM := fun as => if as.length = n + j then (match (frs (as.drop n)).bind π with
  | none => none
  | some ds => (match fm (ctag 0 (as.take n) ++ ds.map .fr) with
    | none => none
    | some (.ok r as') => some (.ok (retag none r) (ctag 0 (as'.take n) ++ as.drop n))
    | some (.ex x as') => some (.ex x (ctag 0 (as'.take n) ++ as.drop n)))) else none
section
variable {K : PySem.W.Frag} {F H : Hp}
/-- by such arguments -/
theorem argM_ok {n j : Nat} {π : List D → Option (List D)} {fm : FM} {vs zs ys : List V} {H2 : Hp} {Q : VK} {E : XK} (hv : vs.length = n) (hz : zs.length = j)
    (hp : ∀ {F ds d2}, RepL K F zs ds → π ds = some d2 → HSub F H → ∃ F2, RepL K F2 ys d2 ∧ HSub F F2 ∧ HSub F2 H2 ∧ (∀ p, F p = none → F2 p ≠ none → H p = none))
    (keep : ∀ p o, H p = some o → H2 p = some o) (h : spC K (argM n j π fm) (vs ++ zs) H Q E) : spC K fm (vs ++ ys) H2 Q E := by
  obtain ⟨F, as, os, o, hl, R, e, q⟩ := h
  unfold argM at e
  split at e
  · rename_i hlen
    cases z : (frs (as.drop n)).bind π with
    | none => rw [z] at e; cases e
    | some d2 =>
      rw [z] at e
      obtain ⟨ds, z1, z2⟩ := Option.bind_eq_some_iff.mp z
      have hsl : RepSs K (ρof (vs ++ zs)) F H ((vs ++ zs).map some) (as.take n ++ as.drop n) os := by rw [List.take_append_drop]; exact R.sl
      have htl : (as.take n).length = n := by rw [List.length_take, hlen]; omega
      obtain ⟨o1, o2, eo, r1, r2⟩ := hsl.split
      rw [htl] at r1 r2
      have t1 : ((vs ++ zs).map some).take n = vs.map some := by rw [← hv, List.map_append, List.take_left' (by simp)]
      have t2 : ((vs ++ zs).map some).drop n = zs.map some := by rw [← hv, List.map_append, List.drop_left' (by simp)]
      rw [t1] at r1
      rw [t2] at r2
      obtain ⟨rz, e2⟩ := frs_ok r2 z1
      subst e2
      rw [List.append_nil] at eo
      subst eo
      obtain ⟨F2, ry, m2, s2, fr2⟩ := hp rz z2 R.sub
      have nf2 : ∀ p ∈ os, F2 p = none := fun p hp => by
        cases y : F2 p with
        | none => rfl
        | some u => exact absurd (fr2 p (R.nf p hp) (by rw [y]; simp)) (R.dom hp)
      have r1' := (ctag_ok (k := 0) (ρ' := ρof (vs ++ ys)) r1 fun j p ej => by
        rw [Nat.zero_add]
        refine rhoOf _ j p ?_
        rw [List.getElem?_append_left (List.getElem?_eq_some_iff.mp ej).1]
        exact ej).move (F' := F2) (H' := H2) m2 fun p hp => by
          cases y : H p with
          | none => exact absurd y (R.dom hp)
          | some u => exact keep p u y
      have r3 := r1'.append (repSs_fr (ρ := ρof (vs ++ ys)) (H := H2) ry)
      rw [List.append_nil, ← List.map_append] at r3
      have R2 : Rep K (ρof (vs ++ ys)) F2 H2 ((vs ++ ys).map some) (ctag 0 (as.take n) ++ d2.map .fr) os := ⟨s2, r3, R.nd, nf2⟩
      have fm0 : Fm F H os F2 H2 os := ⟨m2, fun p o e _ => keep p o e, fun p h => .inl h, fun p a b => .inr (fr2 p a b), fun p h => by
        cases y : H p with
        | none => exact absurd y h
        | some u => rw [keep p u y]; simp⟩
      simp only at e
      have back : ∀ {F' H' : Hp} {as' : List Sl} {o3 : List Addr}, HSub F2 F' → RepSs K (ρof (vs ++ ys)) F' H' ((vs ++ ys).map some) as' o3 → ∃ o4, RepSs K (ρof (vs ++ zs)) F' H' ((vs ++ zs).map some) (ctag 0 (as'.take n) ++ as.drop n) o4 ∧ o4.Sublist o3 := fun {F' H' as' o3} m3 rr => by
        obtain ⟨o4, r4, s4⟩ := rr.take n
        have t3 : ((vs ++ ys).map some).take n = vs.map some := by rw [← hv, List.map_append, List.take_left' (by simp)]
        rw [t3] at r4
        have r5 := ctag_ok (k := 0) (ρ' := ρof (vs ++ zs)) r4 fun j p ej => by
          rw [Nat.zero_add]
          refine rhoOf _ j p ?_
          rw [List.getElem?_append_left (List.getElem?_eq_some_iff.mp ej).1]
          exact ej
        have r6 := r5.append (repSs_fr (ρ := ρof (vs ++ zs)) (H := H') (rz.mono fun p o e => m3 p o (m2 p o e)))
        rw [List.append_nil, ← List.map_append, ← frs_map z1] at r6
        exact ⟨o4, r6, s4⟩
      cases zf : fm (ctag 0 (as.take n) ++ d2.map .fr) with
      | none => rw [zf] at e; cases e
      | some of =>
        rw [zf] at e
        refine ⟨F2, _, os, of, rfl, R2, zf, ?_⟩
        cases of with
        | ok r as' =>
          cases e
          intro F' v H' os' R' f
          obtain ⟨s1, sl, nd, nf⟩ := R'
          cases sl with
          | cons hr rr =>
            obtain ⟨o4, r4, s4⟩ := back f.mono rr
            rename_i x1 x2
            have sb : (x1 ++ o4).Sublist (x1 ++ x2) := List.Sublist.append (List.Sublist.refl _) s4
            exact q F' v H' (x1 ++ o4) ⟨s1, .cons (RepS.re (t := none) hr fun p _ k ek => by cases ek) r4, nd.sublist sb, fun p hp => nf p (sb.subset hp)⟩ (fm_sub (fm0.trans f) fun p hp => sb.subset hp)
        | ex x as' =>
          cases e
          intro F' H' os' c d R' f rx
          obtain ⟨o4, r4, s4⟩ := back f.mono R'.sl
          exact q F' H' o4 c d ⟨R'.sub, r4, R'.nd.sublist s4, fun p hp => R'.nf p (s4.subset hp)⟩ (fm_sub (fm0.trans f) fun p hp => s4.subset hp) rx
  · cases e
end

/-! ### defs without a star -/
section
variable {P : Program} {w : World} {K : PySem.W.Frag} {mg : Str → Option Value} {base : Heap} {k n : Nat} {f : Addr} {fd : FuncData} {ps ks : List Str} {fm : FM} {gW : List Value → List Value} {gV : List V → List V} {π : List D → List D}
/-- n values, ks by name -/
theorem fnc_kw (G : FnG P w K mg base (L2.CX P w) k f fd ps (spM K ps.length fm)) (hb : KBn K fd ps n ks (fun us ws => us ++ gW ws) (fun vs zs => vs ++ gV zs)) (hl : ∀ zs : List V, zs.length = ks.length → n + (gV zs).length = ps.length)
    (hπ : ∀ F zs ds, RepL K F zs ds → RepL K F (gV zs) (π ds)) : FnC P w K mg base k f ks (argM n ks.length (fun ds => some (π ds)) fm) := by
  intro A outer s H us ws vs zs Q E hg hr e0 r rz hz hsp
  have hv : vs.length = n := by
    obtain ⟨F, as, os, o, hl, R, e, q⟩ := hsp
    unfold argM at e
    split at e
    · rename_i h
      have e1 := R.sl.length
      rw [h, List.length_map, List.length_append, hz] at e1
      omega
    · cases e
  have h2 := argM_ok (H2 := H) (ys := gV zs) hv hz (fun {F ds d2} rz e _ => by cases e; exact ⟨F, hπ F zs ds rz, fun _ _ e => e, by assumption, fun p a b => absurd a b⟩) (fun _ _ e => e) hsp
  have KX : K.In s.heap := e0.mod.kin.keeps fun b o e => (e0.bs b o e).1
  have h3 : spM K ps.length fm (vs ++ gV zs) H Q E := by
    have : (vs ++ gV zs).length = ps.length := by rw [List.length_append, hv]; exact hl zs hz
    rw [← this]
    exact h2
  exact G.run A outer s H ⟨us, ks.zip ws⟩ (us ++ gW ws) (vs ++ gV zs) Q E hg hr e0 (hb.to s us ws KX (by rw [← r.length]; exact hv) (by rw [← rz.length]; exact hz)) (hb.rel r rz) h3
theorem kbn_of {ds : List Value} {dvs : List V} (hb : Binds K fd ps ds) (hd : Vals dvs ds) (hl : n + dvs.length = ps.length) : KBn K fd ps n [] (fun us _ => us ++ ds) (fun vs _ => vs ++ dvs) :=
  ⟨fun s us ws KX h1 h2 => hb s us KX (by rw [List.length_append, h1, ← hd.length]; exact hl), fun r _ => r.append hd⟩
/-- n values, the defaults behind them -/
theorem fnc_of {ds : List Value} {dvs : List V} {dds : List D} (G : FnG P w K mg base (L2.CX P w) k f fd ps (spM K ps.length fm)) (hb : Binds K fd ps ds) (hd : Vals dvs ds) (hdd : ∀ F, RepL K F dvs dds) (hl : n + dvs.length = ps.length) :
    FnC P w K mg base k f [] (argM n 0 (fun _ => some dds) fm) := fnc_kw (ks := []) (gW := fun _ => ds) (gV := fun _ => dvs) (π := fun _ => dds) G (kbn_of hb hd hl) (fun _ _ => hl) (fun F _ _ _ => hdd F)
end

/-! ### defs with a star -/
section
variable {P : Program} {w : World} {K : PySem.W.Frag} {mg : Str → Option Value} {base : Heap} {x qual : Str} {params : Arguments} {body : List Stmt} {scope : Scope} {f : Addr} {fd : FuncData} {N ps ks : List Str} {pv : Str} {k n j nb : Nat} {m : M Out}
/-- what a def with a star makes of the values behind the first n: some parameters, the rest a tuple -/
structure Sel (ks : List Str) (n j : Nat) (np : Nat) where
  u : List Value → List Value × List Value
  v : List V → List V × List V
  d : List D → List D × List D
  len : ∀ zs : List V, zs.length = j → n + (v zs).1.length = np
  rel : ∀ {zs : List V} {ws : List Value}, Vals zs ws → Vals (v zs).1 (u ws).1 ∧ Vals (v zs).2 (u ws).2
  rep : ∀ {K : PySem.W.Frag} {F : Hp} {zs : List V} {ds : List D}, RepL K F zs ds → RepL K F (v zs).1 (d ds).1 ∧ RepL K F (v zs).2 (d ds).2
def selD {ks : List Str} {n j np : Nat} (S : Sel ks n j np) : List D → Option (List D) := fun ds => if (S.d ds).2.length ≤ sizeLine then some ((S.d ds).1 ++ [.tup (S.d ds).2]) else none
theorem star_ok (D : FunD K x qual params body scope [] [] f fd) (S : FnScope N (ps ++ [pv]) scope) (hn : N.length - (ps.length + 1) = nb) (T : Sel ks n j ps.length) (i : Nat) (hi : i + ks.length = n + j)
    (hb : ∀ (kV doc pm : Value) (an : Option Addr) (cdv ct : Value) (us ws : List Value), us.length = i → ws.length = ks.length →
      bindArgs (PySem.W.fnOf x qual params body scope .none kV doc pm an cdv ct) ⟨us, ks.zip ws⟩ = (newTuple (T.u ((us ++ ws).drop n)).2 >>= fun t => pure (ps.zip ((us ++ ws).take n ++ (T.u ((us ++ ws).drop n)).1) ++ [(pv, t)])))
    (hbody : ∀ (cdv : Value) (A : Around) (outer : List Env) (s : Shared) (H : Hp) (E : XK) (ρ : Nat → Addr), (cxOf (L2.CX P w) P w K mg base N qual scope f cdv A outer s H E).A.guards = some [] → Room k (cxOf (L2.CX P w) P w K mg base N qual scope f cdv A outer s H E).A →
      Takes (cxOf (L2.CX P w) P w K mg base N qual scope f cdv A outer s H E) (WE E) → PassesOwn (model P w) (cxOf (L2.CX P w) P w K mg base N qual scope f cdv A outer s H E).A (cxOf (L2.CX P w) P w K mg base N qual scope f cdv A outer s H E).env (cxOf (L2.CX P w) P w K mg base N qual scope f cdv A outer s H E).xe →
      VSs (cxOf (L2.CX P w) P w K mg base N qual scope f cdv A outer s H E) ρ (WE E) body m) : FnC P w K mg base (k + 1) f ks (argM n j (selD T) (fnM nb m)) := by
  obtain ⟨oc, od, dV, kV, doc, pm, an, cdv, ct, osl, rfl, lk, hcd, hD, _⟩ := D.ex
  rcases hD with ⟨_, rfl⟩ | ⟨e, _⟩
  case inr => exact absurd rfl e
  intro A outer s H us ws vs zs Q E hg hr e0 r rz hz hsp
  have hal : (vs ++ zs).length = n + j := by
    obtain ⟨F, as, os, o, hl, R, e, q⟩ := hsp
    unfold argM at e
    split at e
    · rename_i h
      have e1 := R.sl.length
      rw [h, List.length_map] at e1
      exact e1
    · cases e
  have hu : us.length = i := by
    have e1 := hal
    rw [List.length_append, hz] at e1
    rw [← r.length]
    omega
  have hw : ws.length = ks.length := by rw [← rz.length]; exact hz
  have ra := r.append rz
  have hn1 : ((vs ++ zs).take n).length = n := by rw [List.length_take, hal]; omega
  have hj : ((vs ++ zs).drop n).length = j := by rw [List.length_drop, hal]; omega
  have rt : Vals ((vs ++ zs).take n) ((us ++ ws).take n) := by
    have : ∀ (n : Nat) {vs : List V} {us : List Value}, Vals vs us → Vals (vs.take n) (us.take n) := fun n => by
      induction n with
      | zero => intro vs us _; simp; exact .nil
      | succ n ih =>
        intro vs us r
        cases r with
        | nil => exact .nil
        | cons h r => exact .cons h (ih r)
    exact this n ra
  obtain ⟨r1, r2⟩ := T.rel (ra.drop n)
  have hl1 : ((us ++ ws).take n ++ (T.u ((us ++ ws).drop n)).1).length = ps.length := by
    rw [List.length_append, ← rt.length, ← r1.length, hn1]
    exact T.len _ hj
  have hsz : (T.u ((us ++ ws).drop n)).2.length ≤ sizeLine := by
    obtain ⟨F, as, os, o, hl, R, e, q⟩ := hsp
    unfold argM at e
    split at e
    · rename_i h
      cases z : (frs (as.drop n)).bind (selD T) with
      | none => rw [z] at e; cases e
      | some d2 =>
        obtain ⟨ds, z1, z2⟩ := Option.bind_eq_some_iff.mp z
        have hsl : RepSs K (ρof (vs ++ zs)) F H ((vs ++ zs).map some) (as.take n ++ as.drop n) os := by rw [List.take_append_drop]; exact R.sl
        obtain ⟨o1, o2, eo, r3, r4⟩ := hsl.split
        rw [show (as.take n).length = n by rw [List.length_take, h]; omega, ← List.map_drop] at r4
        have rz := (T.rep (frs_ok r4 z1).1).2
        unfold selD at z2
        split at z2
        · rename_i hh
          rw [← r2.length, rz.length]
          exact hh
        · cases z2
    · cases e
  have hn0 : H s.heap.objs.size = Option.none := e0.hok.fresh (Nat.le_refl _)
  refine StX.run_bnd lk hcd S hr e0 (G := fun xs H2 => ∃ p, H p = Option.none ∧ xs = ((vs ++ zs).take n ++ (T.v ((vs ++ zs).drop n)).1) ++ [V.ref p] ∧ H2 = upd H p (.tup (T.v ((vs ++ zs).drop n)).2)) (fun A' Ex Q' h => ?_) fun s2 H2 xs ⟨p, hp, ex, eH⟩ hr' => ?_
  · rw [hb kV doc pm an cdv ct us ws hu hw]
    refine wpAny_bind (wpAny_newTuple (wpAny_pure ?_) hsz)
    have new : ObjOk P w (upd H s.heap.objs.size (.tup (T.v ((vs ++ zs).drop n)).2)) (s.heap.push ({ cls := .type "tuple", data := .seq (T.u ((us ++ ws).drop n)).2.toArray } : Obj)) s.heap.objs.size (.tup (T.v ((vs ++ zs).drop n)).2) := ⟨by rw [r2.length]; exact hsz, _, r2, ⟨_, Heap.get?_push_size _ rfl, rfl, _, rfl⟩⟩
    have un := StX.un_laid (fs := L2.frs outer) (s := s) (o := ({ cls := .type "tuple", data := .seq (T.u ((us ++ ws).drop n)).2.toArray } : Obj)) (u := .tup (T.v ((vs ++ zs).drop n)).2) hn0
    have z := h _ _ (((vs ++ zs).take n ++ (T.v ((vs ++ zs).drop n)).1) ++ [V.ref s.heap.objs.size]) (((us ++ ws).take n ++ (T.u ((us ++ ws).drop n)).1) ++ [Value.ref s.heap.objs.size]) (StX.env0_laid e0 new) un rfl (fun e s' => StX.cxUp outer s H _ _ E e s' un (fun b o q => Heap.get?_push_of_some _ q) rfl) ((rt.append r1).append (.cons rfl .nil))
      (by rw [List.length_append, List.length_append, hn1, T.len _ hj, List.length_append] <;> rfl) ⟨_, hn0, rfl, rfl⟩
    rw [List.zip_append hl1.symm] at z
    exact z
  · subst ex eH
    have ne : ∀ q, H q ≠ none → q ≠ p := fun q h e => h (e ▸ hp)
    have h2 := argM_ok (K := K) (H := H) (n := n) (j := j) (Q := Q) (E := E) (π := selD T) (fm := fnM nb m) (H2 := upd H p (.tup (T.v ((vs ++ zs).drop n)).2)) (vs := (vs ++ zs).take n) (zs := (vs ++ zs).drop n) (ys := (T.v ((vs ++ zs).drop n)).1 ++ [V.ref p]) hn1 hj (fun {F ds d2} rz e sub => by
      unfold selD at e
      split at e
      · cases e
        obtain ⟨q1, q2⟩ := T.rep rz
        have fn : F p = none := by
          cases q : F p with
          | none => rfl
          | some u => rw [sub p u q] at hp; cases hp
        have m : HSub F (upd F p (.tup (T.v ((vs ++ zs).drop n)).2)) := fun q u e => by rw [upd_ne (ne q (by rw [sub q u e]; simp))]; exact e
        refine ⟨upd F p (.tup (T.v ((vs ++ zs).drop n)).2), (q1.mono m).append (.cons (.tup (.inl (.inl upd_same)) (q2.mono m)) .nil), m, fun q u e => ?_, fun q h h' => ?_⟩
        · by_cases e2 : q = p
          · subst e2; rw [upd_same] at e ⊢; exact e
          · rw [upd_ne e2] at e ⊢; exact sub q u e
        · by_cases e2 : q = p
          · subst e2; exact hp
          · rw [upd_ne e2] at h'; exact absurd h h'
      · cases e) (fun q u e => by rw [upd_ne (ne q (by rw [e]; simp))]; exact e) (by rw [List.take_append_drop]; exact hsp)
    refine ⟨_, hbody cdv A outer s2 _ E (ρof (((vs ++ zs).take n ++ (T.v ((vs ++ zs).drop n)).1) ++ [V.ref p])) (guards_deeper hg) hr' (takes_of rfl rfl rfl rfl) (passes_of rfl), ?_⟩
    have hl2 : (((vs ++ zs).take n ++ (T.v ((vs ++ zs).drop n)).1) ++ [V.ref p]).length = ps.length + 1 := by rw [List.length_append, List.length_append, hn1, T.len _ hj] <;> rfl
    refine body_end (n := nb) (ps := ps ++ [pv]) (E := E) (by rw [hl2]; exact hn) ?_ (fun _ _ _ _ z => z)
    rw [← List.append_assoc] at h2
    unfold spC at h2
    rw [hl2] at h2
    have : (ps ++ [pv]).length = ps.length + 1 := by simp
    rw [this]

    exact h2
end
end L3
end
section
namespace L3
open PySem PySem.Spec PyProof.Rows L2
/-! ### within a body: what is called -/
def Cal (X : Cx) (W : WX) (A' : Around) (fv : Value) (ks : List Str) (m : FM) : Prop :=
  ∀ (pins : List (Addr × Obj)) (σ : L2.St) (H : Hp) (s : Shared) (us ws : List Value) (vs zs : List V) (Q : VK), Inv X pins σ H s → Vals vs us → Vals zs ws → zs.length = ks.length → spC X.K m (vs ++ zs) H Q (fun c d H => W c d σ H) →
    wpAny (model X.prog X.w) A' (call fv us (ks.zip ws)) (EP X pins σ Q) X.xe s
section
variable {X : Cx} {W : WX} {A' : Around} {k : Nat} {f C : Addr} {ks : List Str} {m : FM}
theorem xrun {pins : List (Addr × Obj)} {σ : L2.St} {H : Hp} {s : Shared} {us ws : List Value} {vs zs : List V} {Q : VK} (F : FnC X.prog X.w X.K X.mg X.base k f ks m) (hg : A'.guards = some []) (hr : Room k A') (e0 : Env0 X.prog X.w X.K X.mg X.base A' X.stack s H) (tk : Takes X W)
    (I : Inv X pins σ H s) (r : Vals vs us) (rz : Vals zs ws) (hz : zs.length = ks.length) (h : spC X.K m (vs ++ zs) H Q (fun c d H => W c d σ H)) :
    codeAny (model X.prog X.w) A' (.call (.ref f) ⟨us, ks.zip ws⟩) (fun r s' => match r with | .ok (.ret v) => EP X pins σ Q v s' | .ok _ => False | .error e => X.xe e s') s := by
  refine codeAny_mono (F A' X.stack s H us ws vs zs Q _ hg hr e0 r rz hz h) fun r s' hq => ?_
  cases r with
  | error e => exact L2.passAt tk σ pins H s e s' I hq
  | ok fl =>
    cases fl with
    | ret u => exact I.after hq
    | next => exact False.elim hq
    | brk => exact False.elim hq
    | cont => exact False.elim hq
theorem cal_fn (F : FnC X.prog X.w X.K X.mg X.base k f ks m) (hg : X.A.guards = some []) (hr : Room k X.A) (tk : Takes X W) : Cal X W X.A (.ref f) ks m :=
  fun pins σ H s us ws vs zs Q I r rz hz h => wpAny_call (xrun F hg hr I.env0 tk I r rz hz h)
theorem cal_fn1 (F : FnC X.prog X.w X.K X.mg X.base k f ks m) (hg : X.A.guards = some []) (hr : Room (k + 1) X.A) (tk : Takes X W) : Cal X W X.A.in1 (.ref f) ks m :=
  fun pins σ H s us ws vs zs Q I r rz hz h => wpAny_call (xrun (A' := X.A.in1) F hg hr.in1 I.env0.in1 tk I r rz hz h)
/-- a new instance of C -/
def mkM (C : Addr) (m : FM) : FM := fun as => match frs as with
  | none => none
  | some _ => (match m (.ow (some 0) (.ins C []) :: as) with
    | some (.ok (.fr .non) (.ow _ o :: _)) => some (.ok (.ow none o) as)
    | some (.ex x _) => some (.ex x as)
    | _ => none)
theorem rep_nil {K : PySem.W.Frag} {ρ : Nat → Addr} {F H : Hp} : Rep K ρ F H [] [] [] → True := fun _ => trivial
theorem mk_ok {K : PySem.W.Frag} {vs : List V} {H : Hp} {Q : VK} {E : XK} {x dx : Addr} (h : spC K (mkM C m) vs H Q E) (hx : H x = none) (hdx : H dx = none) (ne : dx ≠ x) :
    spC K m (.ref x :: vs) (upd (upd H dx (.own x)) x (.ins C dx [])) (fun v H2 => v = .non ∧ Q (.ref x) H2) E := by
  obtain ⟨F, as, os, o, hl, R, e, q⟩ := h
  unfold mkM at e
  cases z : frs as with
  | none => rw [z] at e; cases e
  | some ds =>
    rw [z] at e
    obtain ⟨rv, eo⟩ := frs_ok R.sl z
    subst eo
    have ne2 : ∀ {q o}, H q = some o → q ≠ x ∧ q ≠ dx := fun {q o} e => ⟨fun z => (by rw [z, hx] at e; cases e), fun z => (by rw [z, hdx] at e; cases e)⟩
    have up : ∀ q o, H q = some o → upd (upd H dx (.own x)) x (.ins C dx []) q = some o := fun q o e => by rw [upd_ne (ne2 e).1, upd_ne (ne2 e).2]; exact e
    have dn : ∀ q, upd (upd H dx (.own x)) x (.ins C dx []) q = none → H q = none := fun q e => by
      cases y : H q with
      | none => rfl
      | some o => rw [up q o y] at e; cases e
    have fx : F x = none := by
      cases y : F x with
      | none => rfl
      | some o => rw [R.sub x o y] at hx; cases hx
    have R2 : Rep K (ρof (.ref x :: vs)) F (upd (upd H dx (.own x)) x (.ins C dx [])) ((V.ref x :: vs).map some) (.ow (some 0) (.ins C []) :: as) [x] := by
      refine ⟨fun q o e => up q o (R.sub q o e), .cons (o1 := [x]) (.ow (.ins upd_same .nil) fun k ek => by cases ek; rfl) (by rw [frs_map z]; exact repSs_fr rv), List.nodup_cons.mpr ⟨List.not_mem_nil, List.nodup_nil⟩, fun q hq => by rw [List.mem_singleton.mp hq]; exact fx⟩
    have fmF : ∀ {F' H' : Hp} {o2 o3 : List Addr}, Fm F (upd (upd H dx (.own x)) x (.ins C dx [])) [x] F' H' o2 → (∀ p ∈ o3, p ∈ o2) → Fm F H [] F' H' o3 := fun {F' H' o2 o3} f s => ⟨f.mono, fun p o e _ => f.keep p o (up p o e) fun h => (ne2 e).1 (List.mem_singleton.mp h),
      fun p hp => .inr ((f.own p (s p hp)).elim (fun h => by rw [List.mem_singleton.mp h]; exact hx) (dn p)), fun p a b => .inr ((f.frz p a b).elim (fun h => by rw [List.mem_singleton.mp h]; exact hx) (dn p)),
      fun p hp => f.dom p fun z => hp (dn p z)⟩
    simp only at e
    cases zm : m (.ow (some 0) (.ins C []) :: as) with
    | none => rw [zm] at e; cases e
    | some om =>
      rw [zm] at e
      refine ⟨F, _, [x], om, rfl, R2, zm, ?_⟩
      cases om with
      | ok r as' =>
        intro F' v H' os' R' f
        obtain ⟨s1, sl, nd, nf⟩ := R'
        cases sl with
        | cons hr rr =>
          cases rr with
          | cons h0 r0 =>
            rename_i x1 s0 ss0 p1 p2
            cases r with
            | un => cases e
            | ow t o => cases e
            | fr d =>
              cases d <;> try cases e
              cases s0 <;> try cases e
              rename_i t0 ob
              cases hr with
              | fr hd =>
                cases hd
                refine ⟨rfl, ?_⟩
                cases h0 with
                | ow hob ht =>
                  have sb : p1.Sublist ([] ++ (p1 ++ p2)) := by rw [List.nil_append]; exact List.sublist_append_left _ _
                  refine q F' _ H' p1 ⟨s1, ?_, nd.sublist sb, fun p hp => nf p (sb.subset hp)⟩ (fmF f fun p hp => sb.subset hp)
                  have := RepSs.cons (K := K) (ρ := ρof vs) (F := F') (H := H') (RepS.ow (t := none) hob fun k ek => by cases ek) (repSs_fr (rv.mono f.mono))
                  rw [List.append_nil, ← frs_map z] at this
                  exact this
      | ex xx as' =>
        cases e
        intro F' H' os' c d R' f rx
        refine q F' H' [] c d ⟨R'.sub, by rw [frs_map z]; exact repSs_fr (rv.mono f.mono), List.nodup_nil, fun p hp => nomatch hp⟩ (fmF f fun p hp => nomatch hp) rx
theorem cal_cls (M : Mk X.K C f) (F : FnC X.prog X.w X.K X.mg X.base k f ks m) (hg : X.A.guards = some []) (hr : Room (k + 1) X.A) (tk : Takes X W) : Cal X W X.A (.ref C) ks (mkM C m) := by
  intro pins σ H s us ws vs zs Q I r rz hz h
  have hq := mk_ok h (I.hok.fresh (Nat.le_succ _)) (I.hok.fresh (Nat.le_refl _)) (Nat.ne_of_lt (Nat.lt_succ_self _))
  have I2 := Inv.made (C := C) I
  refine wpAny_call (make_map (f := f) I.kIn M.makes M.init (beq_iff_eq.mp M.fn) (codeAny_mono (xrun (us := Value.ref (s.heap.objs.size + 1) :: us) (vs := V.ref (s.heap.objs.size + 1) :: vs) F (by exact hg) (hr.make C us (ks.zip ws)) (I2.env0.make C us (ks.zip ws)) tk I2 (.cons rfl r) rz hz hq) fun r s' hq' => ?_))
  cases r with
  | error e => exact hq'
  | ok fl =>
    cases fl with
    | ret u =>
      obtain ⟨v, H', I3, rv, ev, q3⟩ := hq'
      subst ev
      exact ⟨rv, ⟨V.ref (s.heap.objs.size + 1), H', I3, rfl, q3⟩⟩
    | next => exact False.elim hq'
    | brk => exact False.elim hq'
    | cont => exact False.elim hq'
end

/-! ### what is handed in -/
section
variable {X : Cx} {ρ : Nat → Addr} {W : WX} {K : PySem.W.Frag} {e1 e2 e3 o : Expr} {mA mB mC : M D} {ms : M Sl} {es : List Expr} {kws : List Keyword} {pos p apos kpos : Pos} {x nm : Str} {ks : List Str} {kn : Option Str} {mg mk : M (List Ag)}
abbrev VKg (X : Cx) (ρ : Nat → Addr) (W : WX) (kws : List Keyword) (m : M (List Ag)) : Prop := PK X kws (tAg X.K ρ W m)
theorem PK.imp {t t' : TA} (h : PK X kws t) (i : ∀ σ H Q, t' σ H Q → t σ H Q) : PK X kws t' := ⟨fun p pins s σ H Q I q => h.run p pins s σ H Q I (i σ H Q q)⟩
theorem vkg_nil : VKg X ρ W [] gNil := PK.imp pk_nil fun σ H Q ⟨F, a, os, o, R, e, q⟩ => by
  simp [gNil, ret] at e
  subst e
  exact q F [] H os .nil R Fm.refl
theorem vkg_v (ha : VD X ρ W e1 mA) (hr : VKg X ρ W kws mg) : VKg X ρ W (⟨kn, e1, kpos⟩ :: kws) (gV mA mg) := PK.imp (pk_cons ha hr) fun σ H Q ⟨F, a, os, o, R, e, q⟩ => by
  refine tD.bind R e (fun x a' z => by subst z; exact q) fun x a1 F1 v1 H1 o1 e1 r1 R1 f1 => ?_
  refine tAg.bind R1 e1 (fun x a' z => by subst z; exact exOf.step q f1) fun xs a2 F2 vs H2 o2 e2 r2 R2 f2 => ?_
  simp [ret] at e2
  subst e2
  exact q F2 _ H2 o2 (.v (r1.mono f2.mono) r2) R2 (f1.trans f2)
theorem repAg_app {F : Hp} {σ : L2.St} : ∀ {v1 v2 : List V} {g1 g2 : List Ag}, RepAg K F σ v1 g1 → RepAg K F σ v2 g2 → RepAg K F σ (v1 ++ v2) (g1 ++ g2)
  | _, _, _, _, .nil, r => r
  | _, _, _, _, .v h t, r => .v h (repAg_app t r)
  | _, _, _, _, .b h t, r => .b h (repAg_app t r)
theorem repAg_vs {F : Hp} {σ : L2.St} : ∀ {vs : List V} {ds : List D}, RepL K F vs ds → RepAg K F σ vs (ds.map Ag.v)
  | _, _, .nil => .nil
  | _, _, .cons h t => .v h (repAg_vs t)
def gApp (m1 m2 : M (List Ag)) : M (List Ag) := bnd m1 fun g => bnd m2 fun h => ret (g ++ h)
/-- *e -/
def gStar (m : M D) (r : M (List Ag)) : M (List Ag) := bnd m fun d => match itemsD d with
  | none => fun _ => none
  | some l => bnd r fun gs => ret (l.map .v ++ gs)
theorem vag_star (ha : VD X ρ W e1 mA) (hr : VAg X ρ W es mg) (hs : starEach (.Starred e1 p :: es) X.env = (true, eval e1 X.env) :: starEach es X.env := by rfl) : VAg X ρ W (.Starred e1 p :: es) (gStar mA mg) := PA.imp (StX.pa_star ha hr hs) fun σ H Q ⟨F, a, os, o, R, e, q⟩ => by
  refine tD.bind R e (fun x a' z => by subst z; exact q) fun d a1 F1 v1 H1 o1 e1 r1 R1 f1 => ?_
  cases z : itemsD d with
  | none => rw [z] at e1; cases e1
  | some l =>
    rw [z] at e1
    obtain ⟨p, vs, ev, hs, rl⟩ := (RepH.fr r1).items R1.sub z
    refine ⟨p, vs, ev, hs.symm, ?_⟩
    refine tAg.bind R1 e1 (fun x a' z => by subst z; exact exOf.step q f1) fun xs a2 F2 ws H2 o2 e2 r2 R2 f2 => ?_
    simp [ret] at e2
    subst e2
    exact q F2 _ H2 o2 (repAg_app (repAg_vs (rl.mono f2.mono)) r2) R2 (f1.trans f2)

/-- the arguments of a call, evaluated -/
structure VAk (X : Cx) (ρ : Nat → Addr) (W : WX) (es : List Expr) (kws : List Keyword) (ks : List Str) (pos : Pos) (m : M (List Ag)) : Prop where
  run : ∀ (fv : Value) (first : List Value) (pins : List (Addr × Obj)) (s : Shared) (σ : L2.St) (H : Hp) (R : Value → Shared → Prop), PySem.W.keepIn X.K fv = true → Inv X pins σ H s →
    tAg X.K ρ W m σ H (fun vs H2 => ∀ s2 us ws, Inv X pins σ H2 s2 → (∃ v1 z1, vs = v1 ++ z1 ∧ Vals v1 us ∧ Vals z1 ws ∧ z1.length = ks.length) → wpAny (model X.prog X.w) X.A (call fv (first ++ us) (ks.zip ws)) R X.xe s2) →
    wpAny (model X.prog X.w) X.A (callWith pos fv first (backTo pos (starEach es X.env)) (backToKw pos (keywordEach kws X.env))) R X.xe s
theorem vak_args (ha : VAg X ρ W (e1 :: es) mg) (hk : VKg X ρ W kws mk) (hl : AgLen mk ks.length) (hall : (backToKw pos (keywordEach kws X.env)).all (·.1.isSome) = true := by rfl) (hks : (backToKw pos (keywordEach kws X.env)).filterMap (·.1) = ks := by rfl)
    (he : starEach (e1 :: es) X.env = (false, eval e1 X.env) :: starEach es X.env := by rfl) (hpl : ((backTo pos (starEach (e1 :: es) X.env)).any (·.1) || (backToKw pos (keywordEach kws X.env)).any (·.1.isNone)) = false := by rfl) :
    VAk X ρ W (e1 :: es) kws ks pos (gApp mg mk) := by
  refine ⟨fun fv first pins s σ H R hkp I h => ?_⟩
  obtain ⟨F, a, os, o, Rp, e, q⟩ := h
  have hq : tAg X.K ρ W mg σ H (fun v1 H1 => tAg X.K ρ W mk σ H1 (fun z1 H2 => z1.length = ks.length ∧ ∀ s2 us ws, Inv X pins σ H2 s2 → (∃ v0 z0, v1 ++ z1 = v0 ++ z0 ∧ Vals v0 us ∧ Vals z0 ws ∧ z0.length = ks.length) → wpAny (model X.prog X.w) X.A (call fv (first ++ us) (ks.zip ws)) R X.xe s2)) := by
    refine tAg.bind Rp e (fun x a' z => by subst z; exact q) fun g a1 F1 v1 H1 o1 e1 r1 R1 f1 => ?_
    cases z : mk a1 with
    | none => simp [bnd, z] at e1
    | some om =>
      cases om with
      | ex x a2 =>
        simp [bnd, z] at e1
        subst e1
        exact ⟨F1, a1, o1, _, R1, z, exOf.step q f1⟩
      | ok g2 a2 =>
        simp [bnd, z, ret] at e1
        subst e1
        refine ⟨F1, a1, o1, _, R1, z, fun F2 z1 H2 o2 r2 R2 f2 => ⟨by rw [r2.length]; exact hl _ _ _ z, ?_⟩⟩
        exact q F2 (v1 ++ z1) H2 o2 (repAg_app (r1.mono f2.mono) r2) R2 (f1.trans f2)
  refine PySem.W.callWith_KW (h₀ := X.base) I.ok.mod.kin hkp hall (thn (ha.run pos pins s σ H _ I hq) fun us s1 ⟨v1, H1, I1, r, q1⟩ => ?_) hpl he
  refine thn (hk.run pos pins s1 σ H1 _ I1 q1) fun ws s2 ⟨z1, H2, I2, rz, hz, q2⟩ => ⟨I2.kIn, ?_⟩
  rw [hks]
  exact q2 s2 us ws I2 ⟨v1, z1, rfl, r, rz, hz⟩
theorem vak_none (hk : VKg X ρ W kws mk) (hl : AgLen mk ks.length) (hall : (backToKw pos (keywordEach kws X.env)).all (·.1.isSome) = true := by rfl) (hks : (backToKw pos (keywordEach kws X.env)).filterMap (·.1) = ks := by rfl)
    (hpl : ((backTo pos (starEach [] X.env)).any (·.1) || (backToKw pos (keywordEach kws X.env)).any (·.1.isNone)) = false := by rfl) :
    VAk X ρ W [] kws ks pos (gApp gNil mk) := by
  refine ⟨fun fv first pins s σ H R hkp I h => ?_⟩
  obtain ⟨F, a, os, o, Rp, e, q⟩ := h
  have hq : tAg X.K ρ W mk σ H (fun z1 H2 => z1.length = ks.length ∧ ∀ s2 us ws, Inv X pins σ H2 s2 → (∃ v0 z0, [] ++ z1 = v0 ++ z0 ∧ Vals v0 us ∧ Vals z0 ws ∧ z0.length = ks.length) → wpAny (model X.prog X.w) X.A (call fv (first ++ us) (ks.zip ws)) R X.xe s2) := by
    cases z : mk a with
    | none => simp [gApp, gNil, ret, bnd, z] at e
    | some om =>
      cases om with
      | ex x a2 =>
        simp [gApp, gNil, ret, bnd, z] at e
        subst e
        exact ⟨F, a, os, _, Rp, z, q⟩
      | ok g2 a2 =>
        simp [gApp, gNil, bnd, z, ret] at e
        subst e
        refine ⟨F, a, os, _, Rp, z, fun F2 z1 H2 o2 r2 R2 f2 => ⟨by rw [r2.length]; exact hl _ _ _ z, ?_⟩⟩
        exact q F2 z1 H2 o2 r2 R2 f2
  refine PySem.W.callWith_KW0 (h₀ := X.base) I.ok.mod.kin hkp hall ?_ hpl
  refine thn (hk.run pos pins s σ H _ I hq) fun ws s2 ⟨z1, H2, I2, rz, hz, q2⟩ => ⟨I2.kIn, ?_⟩
  rw [hks]
  exact q2 s2 [] ws I2 ⟨[], z1, rfl, .nil, rz, hz⟩
/-- a star not at the first place -/
theorem vak_star (ha : VAg X ρ W (e1 :: es) mg) (he : starEach (e1 :: es) X.env = (false, eval e1 X.env) :: starEach es X.env := by rfl) (hst : (backTo pos (starEach es X.env)).any (·.1) = true := by rfl) : VAk X ρ W (e1 :: es) [] [] pos mg := by
  refine ⟨fun fv first pins s σ H R hkp I h => ?_⟩
  refine PySem.W.callWith_S2 (h₀ := X.base) I.ok.mod.kin hkp (thn (ha.run pos pins s σ H _ I h) fun us s1 ⟨v1, H1, I1, r, q1⟩ => ⟨I1.kIn, ?_⟩) he hst
  exact q1 s1 us [] I1 ⟨v1, [], by simp, r, .nil, rfl⟩

/-! ### the step of a call -/
def callA (m : FM) (gs : List Ag) : M Sl := mCl m (ret gs) []
theorem callA_ok {m : FM} {gs : List Ag} {vs : List V} {F H : Hp} {σ : L2.St} {a : AS} {os : List Addr} {oo : Er Sl} {Q : VK} {E : XK} (R : Rep K ρ F H σ a os) (ra : RepAg K F σ vs gs) (e : callA m gs a = some oo)
    (q : match oo with
      | .ok r a' => ∀ F' v H' os', Rep K ρ F' H' (some v :: σ) (r :: a') os' → Fm F H os F' H' os' → Q v H'
      | .ex x a' => ∀ F' H' os' c d, Rep K ρ F' H' σ a' os' → Fm F H os F' H' os' → RepX K F' x c d → E c d H') : spC K m vs H Q E := by
  have := call_ok (Q := Q) (E := E) (n := vs.length) (dvs := []) (dds := []) (fun _ => .nil) (by simp) R ra e (by cases oo <;> exact q)
  rw [List.append_nil] at this
  exact this
/-- f(..), f a global name -/
theorem ve_callN {f : Addr} {m : FM} (c : Cal X W X.A (.ref f) ks m) (hk : PySem.W.keepIn X.K (.ref f) = true) (hg : Gl X x) (hm : X.mg x = some (.ref f)) (ha : VAk X ρ W es kws ks pos mg) (hdb : (x == ("__debug__" : Str)) = false := by decide) :
    VE X ρ W (.Call (.Name x p) es kws pos) (bnd mg (callA m)) := by
  refine ⟨fun pins s σ H Q I h => ?_⟩
  refine wpAny_Call_Name_kw (ld_glob I hg hm ?_ hdb)
  obtain ⟨F, a, os, o, R, e, q⟩ := h
  refine ha.run (.ref f) [] pins s σ H _ hk I ?_
  refine tAg.bind R e (fun x a' z => by subst z; exact q) fun gs a1 F1 vs H1 o1 e1 r1 R1 f1 => ?_
  intro s2 us ws I2 ⟨v1, z1, ev, rv, rz, hz⟩
  subst ev
  refine c pins σ H1 s2 us ws v1 z1 Q I2 rv rz hz (callA_ok R1 r1 e1 ?_)
  cases o with
  | ok r a' => exact fun F' v H' os' R' f' => q F' v H' os' R' (f1.trans f')
  | ex x a' => exact fun F' H' os' c d R' f' rx => q F' H' os' c d R' (f1.trans f') rx
end

/-! ### receivers -/
section
variable {X : Cx} {ρ : Nat → Addr} {W : WX} {K : PySem.W.Frag} {e1 e2 e3 o : Expr} {mA mB mC : M D} {es : List Expr} {kws : List Keyword} {pos p apos : Pos} {x nm : Str} {ks : List Str} {mg : M (List Ag)} {mo : M Ag}
def tR (K : PySem.W.Frag) (ρ : Nat → Addr) (W : WX) (m : M Ag) : TE := fun σ H Q => ∃ F a os o, Rep K ρ F H σ a os ∧ m a = some o ∧ match o with
  | .ok g a' => ∀ F' v H' os', RepAg K F' σ [v] [g] → Rep K ρ F' H' σ a' os' → Fm F H os F' H' os' → Q v H'
  | .ex x a' => exOf K ρ W F H os x a' σ
abbrev VR (X : Cx) (ρ : Nat → Addr) (W : WX) (e : Expr) (m : M Ag) : Prop := PE X e (tR X.K ρ W m)
theorem tR.bind {β : Type} {m : M Ag} {f : Ag → M β} {σ : L2.St} {H F : Hp} {a : AS} {os : List Addr} {o : Er β} {Q : VK} (R : Rep K ρ F H σ a os) (e : bnd m f a = some o)
    (hx : ∀ x a', o = .ex x a' → exOf K ρ W F H os x a' σ)
    (h : ∀ g a1 F1 v H1 o1, f g a1 = some o → RepAg K F1 σ [v] [g] → Rep K ρ F1 H1 σ a1 o1 → Fm F H os F1 H1 o1 → Q v H1) : tR K ρ W m σ H Q := by
  cases q : m a with
  | none => simp [bnd, q] at e
  | some r =>
    cases r with
    | ok d a1 =>
      simp [bnd, q] at e
      exact ⟨F, a, os, _, R, q, fun F' v H' os' rd R' fm => h d a1 F' v H' os' e rd R' fm⟩
    | ex x a1 =>
      simp [bnd, q] at e
      exact ⟨F, a, os, _, R, q, hx x a1 e.symm⟩
/-- a value -/
def rV (m : M D) : M Ag := bnd m fun d => ret (.v d)
theorem vr_v (h : VD X ρ W e1 mA) : VR X ρ W e1 (rV mA) := PE.imp h fun σ H Q ⟨F, a, os, o, R, e, q⟩ => by
  refine tD.bind R e (fun x a' z => by subst z; exact q) fun d a1 F1 v H1 o1 e1 rd R1 f1 => ?_
  simp [ret] at e1
  subst e1
  exact q F1 v H1 o1 (.v rd .nil) R1 f1
/-- a name, its object lent -/
def rB (i : Nat) : M Ag := fun a => match a[i]? with
  | some (.fr _) => some (.ok (.b i) a)
  | some (.ow _ _) => some (.ok (.b i) a)
  | _ => none
theorem vr_b (i : Nat) (h : PE X e1 (tVar i)) : VR X ρ W e1 (rB i) := PE.imp h fun σ H Q ⟨F, a, os, o, R, e, q⟩ => by
  unfold rB at e
  cases z : a[i]? with
  | none => rw [z] at e; cases e
  | some s =>
    rw [z] at e
    obtain ⟨w, _, _, _, e1, _, h1, _⟩ := R.sl.zip z
    cases h1 with
    | un => cases e
    | fr h => cases e; exact ⟨_, e1, q F _ H os (.b e1 .nil) R Fm.refl⟩
    | ow h t => cases e; exact ⟨_, e1, q F _ H os (.b e1 .nil) R Fm.refl⟩
/-- the class of an instance, which has no nm of its own -/
def insOf (nm : Option Str) (g : Ag) : M Addr := fun a => match g with
  | .v (.ins C fs) => if nm.all (fun n => (fs.lookup n).isNone) then some (.ok C a) else none
  | .b i => (match a[i]? with
    | some (.fr (.ins C fs)) => if nm.all (fun n => (fs.lookup n).isNone) then some (.ok C a) else none
    | some (.ow _ (.ins C fs)) => if nm.all (fun n => (fs.lookup n).isNone) then some (.ok C a) else none
    | _ => none)
  | _ => none
theorem RepFs.lookNone {F H : Hp} : ∀ {vs : List (Str × V)} {fs : List (Str × Fd)} {os : List Addr} {f : Str}, RepFs K F H vs fs os → fs.lookup f = none → vs.lookup f = none
  | _, _, _, _, .nil, _ => rfl
  | _, _, _, f, .cons (x := x) h r, e => by
    rw [List.lookup_cons] at e ⊢
    cases q : f == x with
    | true => rw [q] at e; cases e
    | false => rw [q] at e; exact RepFs.lookNone r e
theorem insOf_ok {nm : Option Str} {g : Ag} {F H : Hp} {σ : L2.St} {a a' : AS} {os : List Addr} {v : V} {C : Addr} (R : Rep K ρ F H σ a os) (ra : RepAg K F σ [v] [g]) (e : insOf nm g a = some (.ok C a')) :
    a' = a ∧ ∃ q dx vs, v = .ref q ∧ H q = some (.ins C dx vs) ∧ ∀ n, nm = some n → vs.lookup n = none := by
  have fin : ∀ {fs : List (Str × D)} {vs : List (Str × V)}, RepN K F vs fs → nm.all (fun n => (fs.lookup n).isNone) = true → ∀ n, nm = some n → vs.lookup n = none := fun r h n en => by
    subst en
    exact r.lookNone (by simpa using h)
  cases ra with
  | v h _ =>
    cases h with
    | ins hF r =>
      unfold insOf at e
      simp only at e
      split at e
      · rename_i hh
        cases e
        exact ⟨rfl, _, _, _, rfl, R.sub _ _ hF, fin r hh⟩
      · cases e
    | _ => cases e
  | b h _ =>
    unfold insOf at e
    simp only at e
    split at e
    · rename_i C' fs z
      split at e
      · rename_i hh
        cases e
        obtain ⟨w, _, _, _, e1, _, h1, _⟩ := R.sl.zip z
        rw [h] at e1
        cases e1
        cases h1 with
        | fr h1 =>
          cases h1 with
          | ins hF r => exact ⟨rfl, _, _, _, rfl, R.sub _ _ hF, fin r hh⟩
      · cases e
    · rename_i t C' fs z
      split at e
      · rename_i hh
        cases e
        obtain ⟨w, _, _, _, e1, _, h1, _⟩ := R.sl.zip z
        rw [h] at e1
        cases e1
        cases h1 with
        | ow h1 t1 =>
          cases h1 with
          | ins hF r => exact ⟨rfl, _, _, _, rfl, hF, fun n en => by subst en; exact r.lookNone (by simpa using hh)⟩
      · cases e
    · cases e
theorem insOf_ex {nm : Option Str} {g : Ag} {a a' : AS} {x : Ex} (e : insOf nm g a = some (.ex x a')) : False := by
  unfold insOf at e
  split at e
  · split at e <;> cases e
  · split at e
    · split at e <;> cases e
    · split at e <;> cases e
    · cases e
  · cases e
/-- by the receiver's class -/
abbrev Disp := Addr → Option FM
def disp1 (C : Addr) (m : FM) : Disp := fun c => if c = C then some m else none
theorem disp1_at {C C' : Addr} {m m' : FM} (h : disp1 C m C' = some m') : C' = C ∧ m' = m := by
  unfold disp1 at h
  split at h
  · rename_i e; cases h; exact ⟨e, rfl⟩
  · cases h
def mMth (nm : Option Str) (dp : Disp) (mo : M Ag) (mg : M (List Ag)) : M Sl := bnd mo fun g => bnd (insOf nm g) fun C => match dp C with
  | none => fun _ => none
  | some m => bnd mg fun gs => callA m (g :: gs)
theorem mth_split {β : Type} {nm : Option Str} {g : Ag} {f : Addr → M β} {F H : Hp} {σ : L2.St} {a : AS} {os : List Addr} {v : V} {o : Er β} (R : Rep K ρ F H σ a os) (ra : RepAg K F σ [v] [g]) (e : bnd (insOf nm g) f a = some o) :
    ∃ C q dx vs, f C a = some o ∧ v = .ref q ∧ H q = some (.ins C dx vs) ∧ ∀ n, nm = some n → vs.lookup n = none := by
  unfold bnd at e
  cases z : insOf nm g a with
  | none => rw [z] at e; cases e
  | some oi =>
    rw [z] at e
    cases oi with
    | ex x a2 => exact (insOf_ex z).elim
    | ok C a2 =>
      obtain ⟨ea, q, dx, vs, h⟩ := insOf_ok R ra z
      subst ea
      exact ⟨C, q, dx, vs, e, h⟩
/-- o.m(..) -/
theorem ve_meth {dp : Disp} {pl : Sem Bool} (ho : VR X ρ W o mo) (hd : ∀ C m, dp C = some m → ∃ f, Cls X.K C ∧ Meth X.K C nm f ∧ Cal X W X.A (.ref f) ks m) (ha : VAk X ρ W es kws ks pos mg)
    (ht : eval (.Call (.Attribute o nm apos) es kws pos) X.env = (do
      let ov ← eval o X.env
      standAt apos.atName
      let (f, first) ← holding [ov] (getMethod ov nm pl)
      callWith pos f first (backTo pos (starEach es X.env)) (backToKw pos (keywordEach kws X.env))) := by rfl) :
    VE X ρ W (.Call (.Attribute o nm apos) es kws pos) (mMth (some nm) dp mo mg) := by
  refine ⟨fun pins s σ H Q I h => ?_⟩
  obtain ⟨F, a, os, oo, R, e, q⟩ := h
  refine PySem.W.methodCall_KW (pl := pl) (thn (ho.run pins s σ H (fun v H1 => ∃ F1 a1 o1 g, RepAg X.K F1 σ [v] [g] ∧ Rep X.K ρ F1 H1 σ a1 o1 ∧ Fm F H os F1 H1 o1 ∧ (bnd (insOf (some nm) g) fun C => match dp C with | none => fun _ => none | some m => bnd mg fun gs => callA m (g :: gs)) a1 = some oo) I ?_) fun u s1 ⟨v, H1, I1, rv, F1, a1, o1, g, ra, R1, f1, e1⟩ => ?_) ht
  · exact tR.bind R e (fun x a' z => by subst z; exact q) fun g a1 F1 v H1 o1 e1 ra R1 f1 => ⟨F1, a1, o1, g, ra, R1, f1, e1⟩
  · obtain ⟨C, qa, dx, fs, e2, ev, hq, hl⟩ := mth_split R1 ra e1
    subst ev
    obtain rfl : u = Value.ref qa := rv
    cases zd : dp C with
    | none => simp [zd] at e2
    | some m =>
      simp only [zd] at e2
      obtain ⟨f, c, hm, cal⟩ := hd C m zd
      refine getmeth_ok I1 hq c hm (hl nm rfl) ?_
      refine ha.run (.ref f) [.ref qa] pins s1 σ H1 _ hm.kp I1 ?_
      refine tAg.bind R1 e2 (fun x a' z => by subst z; exact exOf.step q f1) fun gs a2 F2 vs H2 o2 e3 r2 R2 f2 => ?_
      intro s2 us ws I2 ⟨v1, z1, ev, rv, rz, hz⟩
      subst ev
      have rg : RepAg X.K F2 σ (.ref qa :: (v1 ++ z1)) (g :: gs) := repAg_app (v1 := [.ref qa]) (g1 := [g]) (ra.mono f2.mono) r2
      refine cal pins σ H2 s2 (.ref qa :: us) ws (.ref qa :: v1) z1 Q I2 (.cons rfl rv) rz hz (callA_ok R2 rg e3 ?_)
      cases oo with
      | ok r a' => exact fun F' v H' os' R' f' => q F' v H' os' R' ((f1.trans f2).trans f')
      | ex x a' => exact fun F' H' os' c d R' f' rx => q F' H' os' c d R' ((f1.trans f2).trans f') rx
end
end L3
end
section
namespace L3
open PySem PySem.Spec PyProof.Rows L2
/-! ### static methods -/
structure SMet (K : PySem.W.Frag) (C : Addr) (mc : Value) (m : Str) (p g : Addr) : Prop where
  rd : ClX.CRead K C mc
  at_ : PySem.W.findCls K (.ref C) mc m = some (.get (.builtin "staticmethod.__get__") (.ref p) .none (.ref C))
  rc : ∃ rest, PySem.W.recIn K p "staticmethod" = some (.ref g :: rest)
  kp : PySem.W.keepIn K (.ref g) = true
structure SInst (K : PySem.W.Frag) (C : Addr) (m : Str) (p g : Addr) : Prop where
  c : Cls K C
  ic : PySem.W.isClsIn K C = true
  at_ : PySem.W.findIn K (.ref C) m = some (some (.ref p))
  ty : PySem.W.typeIn K (.ref p) = some (.type "staticmethod")
  get : PySem.W.specialIn K (.ref p) "__get__" = some (some (.builtin "staticmethod.__get__"))
  tk : PySem.W.takesIn K (.ref p) = some false
  cp : PySem.W.copiedNames.contains m = false
  rc : ∃ rest, PySem.W.recIn K p "staticmethod" = some (.ref g :: rest)
  kp : PySem.W.keepIn K (.ref g) = true
section
variable {X : Cx} {pins : List (Addr × Obj)} {σ : L2.St} {H : Hp} {s : Shared} {a C dx p g : Addr} {mc : Value} {m : Str} {fs : List (Str × V)} {A : Around} {E : Value → Shared → Prop} {pl : Sem Bool} {Q : Value × List Value → Shared → Prop}
theorem getsm_ok (I : Inv X pins σ H s) (k : SMet X.K C mc m p g) (h : ∀ s', Inv X pins σ H s' → Q (.ref g, []) s') : wpAny (model X.prog X.w) A (getMethod (.ref C) m pl) Q E s := by
  obtain ⟨rest, hp⟩ := k.rc
  refine PySem.W.method_cls I.kIn k.rd.ga (PySem.W.cls_bind I.kIn k.rd.rd k.at_ ?_)
  exact wpAny_call (PySem.W.sm_get (s := { s with toks := s.toks + 1 }) I.kIn hp (PySem.W.handed_on rfl (h _ (I.tok _))))
theorem getsi_ok (I : Inv X pins σ H s) (ea : H a = some (.ins C dx fs)) (k : SInst X.K C m p g) (l : fs.lookup m = none) (h : ∀ s', Inv X pins σ H s' → Q (.ref g, []) s') : wpAny (model X.prog X.w) A (getMethod (.ref a) m pl) Q E s := by
  obtain ⟨mA, O, rr, _, _, _⟩ := ins_get I.hok ea
  have hn : mA m = none := RelO.none_of (by rw [← l]; exact rr m)
  obtain ⟨od, J, hl⟩ := O.look
  obtain ⟨rest, hp⟩ := k.rc
  refine PySem.W.method_usual (r := some (.ref p)) I.kIn J (PySem.W.plainGet_of (k.c.get m)).1 (PySem.W.plainGet_of (k.c.get m)).2 k.at_ ?_ ?_
  · show ((PySem.W.typeIn X.K (.ref p)).any fun t => t != .type "function" && t != .type "method_descriptor" && t != .type "wrapper_descriptor") = true
    rw [k.ty]
    decide +kernel
  · refine PySem.W.get_bind I.kIn J (PySem.W.plainGet_of (k.c.get m)).1 (ClX.find_cm k.ic k.at_ k.get k.tk k.cp (by rw [hl m, hn])) (PySem.W.plainGet_of (k.c.get m)).2 ?_
    exact wpAny_call (PySem.W.sm_get (s := { s with toks := s.toks + 1 }) I.kIn hp (PySem.W.handed_on rfl (h _ (I.tok _))))
end
section
variable {X : Cx} {ρ : Nat → Addr} {W : WX} {K : PySem.W.Frag} {e1 e2 e3 o : Expr} {mA mB mC : M D} {es : List Expr} {kws : List Keyword} {pos p apos : Pos} {x nm : Str} {ks : List Str} {mg : M (List Ag)} {mo : M Ag} {C g q : Addr} {mc : Value} {m : FM}
/-- C.m(..), C a class by its name -/
theorem ve_static {pl : Sem Bool} (k : SMet X.K C mc nm q g) (hg : Gl X x) (hm : X.mg x = some (.ref C)) (c : Cal X W X.A (.ref g) ks m) (ha : VAk X ρ W es kws ks pos mg) (hdb : (x == ("__debug__" : Str)) = false := by decide)
    (ht : eval (.Call (.Attribute (.Name x p) nm apos) es kws pos) X.env = (do
      let ov ← eval (.Name x p) X.env
      standAt apos.atName
      let (f, first) ← holding [ov] (getMethod ov nm pl)
      callWith pos f first (backTo pos (starEach es X.env)) (backToKw pos (keywordEach kws X.env))) := by rfl) :
    VE X ρ W (.Call (.Attribute (.Name x p) nm apos) es kws pos) (bnd mg (callA m)) := by
  refine ⟨fun pins s σ H Q I h => ?_⟩
  refine PySem.W.methodCall_KW (pl := pl) (ld_glob I hg hm ?_ hdb) ht
  refine getsm_ok I k fun s1 I1 => ?_
  obtain ⟨F, a, os, oo, R, e, q⟩ := h
  refine ha.run (.ref g) [] pins s1 σ H _ k.kp I1 ?_
  refine tAg.bind R e (fun x a' z => by subst z; exact q) fun gs a1 F1 vs H1 o1 e1 r1 R1 f1 => ?_
  intro s2 us ws I2 ⟨v1, z1, ev, rv, rz, hz⟩
  subst ev
  refine c pins σ H1 s2 us ws v1 z1 Q I2 rv rz hz (callA_ok R1 r1 e1 ?_)
  cases oo with
  | ok r a' => exact fun F' v H' os' R' f' => q F' v H' os' R' (f1.trans f')
  | ex x a' => exact fun F' H' os' c d R' f' rx => q F' H' os' c d R' (f1.trans f') rx
def mMthS (nm : Str) (dp : Disp) (mo : M Ag) (mg : M (List Ag)) : M Sl := bnd mo fun g => bnd (insOf (some nm) g) fun C => match dp C with
  | none => fun _ => none
  | some m => bnd mg fun gs => callA m gs
/-- o.m(..), a static method -/
theorem ve_statI {dp : Disp} {pl : Sem Bool} (ho : VR X ρ W o mo) (hd : ∀ C m, dp C = some m → ∃ p g, SInst X.K C nm p g ∧ Cal X W X.A (.ref g) ks m) (ha : VAk X ρ W es kws ks pos mg)
    (ht : eval (.Call (.Attribute o nm apos) es kws pos) X.env = (do
      let ov ← eval o X.env
      standAt apos.atName
      let (f, first) ← holding [ov] (getMethod ov nm pl)
      callWith pos f first (backTo pos (starEach es X.env)) (backToKw pos (keywordEach kws X.env))) := by rfl) :
    VE X ρ W (.Call (.Attribute o nm apos) es kws pos) (mMthS nm dp mo mg) := by
  refine ⟨fun pins s σ H Q I h => ?_⟩
  obtain ⟨F, a, os, oo, R, e, q⟩ := h
  refine PySem.W.methodCall_KW (pl := pl) (thn (ho.run pins s σ H (fun v H1 => ∃ F1 a1 o1 g, RepAg X.K F1 σ [v] [g] ∧ Rep X.K ρ F1 H1 σ a1 o1 ∧ Fm F H os F1 H1 o1 ∧ (bnd (insOf (some nm) g) fun C => match dp C with | none => fun _ => none | some m => bnd mg fun gs => callA m gs) a1 = some oo) I ?_) fun u s1 ⟨v, H1, I1, rv, F1, a1, o1, g, ra, R1, f1, e1⟩ => ?_) ht
  · exact tR.bind R e (fun x a' z => by subst z; exact q) fun g a1 F1 v H1 o1 e1 ra R1 f1 => ⟨F1, a1, o1, g, ra, R1, f1, e1⟩
  · obtain ⟨C, qa, dx, fs, e2, ev, hq, hl⟩ := mth_split R1 ra e1
    subst ev
    obtain rfl : u = Value.ref qa := rv
    cases zd : dp C with
    | none => simp [zd] at e2
    | some m =>
      simp only [zd] at e2
      obtain ⟨p, f, k, cal⟩ := hd C m zd
      refine getsi_ok I1 hq k (hl nm rfl) fun s2 I2 => ?_
      refine ha.run (.ref f) [] pins s2 σ H1 _ k.kp I2 ?_
      refine tAg.bind R1 e2 (fun x a' z => by subst z; exact exOf.step q f1) fun gs a2 F2 vs H2 o2 e3 r2 R2 f2 => ?_
      intro s3 us ws I3 ⟨v1, z1, ev, rv, rz, hz⟩
      subst ev
      refine cal pins σ H2 s3 us ws v1 z1 Q I3 rv rz hz (callA_ok R2 r2 e3 ?_)
      cases oo with
      | ok r a' => exact fun F' v H' os' R' f' => q F' v H' os' R' ((f1.trans f2).trans f')
      | ex x a' => exact fun F' H' os' c d R' f' rx => q F' H' os' c d R' ((f1.trans f2).trans f') rx

/-! ### properties -/
def noX {α : Type} (m : M α) : M α := fun a => match m a with
  | some (.ok r a') => some (.ok r a')
  | _ => none
def mPrp (dp : Disp) (mo : M Ag) : M Sl := bnd mo fun g => bnd (insOf none g) fun C => match dp C with
  | none => fun _ => none
  | some m => noX (callA m [g])
theorem takes_nox : Takes X.nox (fun _ _ _ _ => False) := fun u s' ⟨a, B, sI, pins, σ, H, cls, d, e, I, nb, up, sky, na, os, ag, h⟩ => h.elim
/-- e.f, a property -/
theorem ve_prop {dp : Disp} {k : Nat} (ho : VR X ρ W o mo) (hd : ∀ C m, dp C = some m → ∃ p g, Cls X.K C ∧ PropOf X.K C nm p g ∧ FnC X.prog X.w X.K X.mg X.base k g [] m) (hgd : X.A.guards = some []) (hr : Room (k + 1) X.A)
    (hab : attributeBase o nm X.env (eval o X.env) = eval o X.env := by rfl) : VE X ρ W (.Attribute o nm pos) (mPrp dp mo) := by
  refine ⟨fun pins s σ H Q I h => ?_⟩
  obtain ⟨F, a, os, oo, R, e, q⟩ := h
  refine attr_of hab (thn (ho.run pins s σ H (fun v H1 => ∃ F1 a1 o1 g, RepAg X.K F1 σ [v] [g] ∧ Rep X.K ρ F1 H1 σ a1 o1 ∧ Fm F H os F1 H1 o1 ∧ (bnd (insOf none g) fun C => match dp C with | none => fun _ => none | some m => noX (callA m [g])) a1 = some oo) I ?_) fun u s1 ⟨v, H1, I1, rv, F1, a1, o1, g, ra, R1, f1, e1⟩ => ?_)
  · exact tR.bind R e (fun x a' z => by subst z; exact q) fun g a1 F1 v H1 o1 e1 ra R1 f1 => ⟨F1, a1, o1, g, ra, R1, f1, e1⟩
  · obtain ⟨C, qa, dx, fs, e2, ev, hq, hl⟩ := mth_split R1 ra e1
    subst ev
    obtain rfl : u = Value.ref qa := rv
    cases zd : dp C with
    | none => simp [zd] at e2
    | some m =>
      simp only [zd] at e2
      obtain ⟨p, f, c, hp, cal⟩ := hd C m zd
      obtain ⟨mA, O, _, _, _, _⟩ := ins_get I1.hok hq
      obtain ⟨od, J, _⟩ := O.look
      obtain ⟨rest, hrec⟩ := hp.rec_
      have I2 := I1.tok (s1.toks + 1)
      have hc : (PySem.W.clsIn X.K C).isSome = true := by
        obtain ⟨cd, hc, _⟩ := PySem.W.any_some c.hd
        rw [hc]
        rfl
      unfold noX at e2
      cases zc : callA m [g] a1 with
      | none => rw [zc] at e2; cases e2
      | some oc =>
        rw [zc] at e2
        cases oc with
        | ex x a2 => cases e2
        | ok r a2 =>
          cases e2
          have hs : spC X.K m ([.ref qa] ++ []) H1 Q (fun c d H => False) := callA_ok R1 ra zc fun F' v H' os' R' f' => q F' v H' os' R' (f1.trans f')
          refine PySem.W.get_bind I1.kIn J (PySem.W.plainGet_of (c.get nm)).1 (PySem.W.findObj_data hc hp.at_ hp.get hp.tak) (PySem.W.plainGet_of (c.get nm)).2 (wpAny_call (PySem.W.prop_get (s := { s1 with toks := s1.toks + 1 }) I1.kIn hrec ?_))
          refine codeAny_mono (cal X.A.in1 X.stack { s1 with toks := s1.toks + 1 } H1 [.ref qa] [] [.ref qa] [] Q _ hgd hr.in1 I2.env0.in1 (.cons rfl .nil) .nil rfl hs) fun r s' hq => ?_
          cases r with
          | error er => exact (L2.passAt (X := X.nox) takes_nox σ pins H1 { s1 with toks := s1.toks + 1 } er s' (I2.wish _) hq).elim
          | ok fl =>
            cases fl with
            | ret u =>
              obtain ⟨v, H', I3, rv, q3⟩ := I2.after hq
              show wpAny _ _ (handedOut u) _ _ _
              rw [PySem.W.handedOut_of (handed_of rv)]
              exact wpAny_pure ⟨v, H', I3, rv, q3⟩
            | next => exact False.elim hq
            | brk => exact False.elim hq
            | cont => exact False.elim hq

/-! ### len, items, operators by own defs -/
/-- what a class has under a special name -/
structure Dun (K : PySem.W.Frag) (C : Addr) (nm : Str) (f : Addr) : Prop where
  at_ : PySem.W.findIn K (.ref C) nm = some (some (.ref f))
  fn : PySem.W.isFn K (.ref f) = true
  fi : PySem.W.fnIn K f = true
theorem insAt {pins : List (Addr × Obj)} {σ : L2.St} {H : Hp} {s : Shared} {dx : Addr} {fs : List (Str × V)} (I : Inv X pins σ H s) (h : H q = some (.ins C dx fs)) : ∃ ox od, PySem.W.InstAt s.heap q ox C od := by
  obtain ⟨mA, O, _⟩ := ins_get I.hok h
  obtain ⟨od, J, _⟩ := O.look
  exact ⟨_, _, J⟩
def asLen (m : M Sl) : M Sl := bnd m fun s => match s with
  | .fr (.int n) => if 0 ≤ n ∧ n < 2 ^ 63 then ret s else fun _ => none
  | _ => fun _ => none
def mLenO (dp : Disp) (mo : M Ag) : M Sl := bnd mo fun g => bnd (insOf none g) fun C => match dp C with
  | none => fun _ => none
  | some m => asLen (callA m [g])
theorem ve_lenO {dp : Disp} (hg : Gl X "len") (hm : X.mg "len" = none) (ho : VR X ρ W o mo) (hd : ∀ C m, dp C = some m → ∃ f, Dun X.K C "__len__" f ∧ Cal X W X.A.in1 (.ref f) [] m)
    (he : starEach [o] X.env = (false, eval o X.env) :: starEach [] X.env := by rfl) (hpl : (backTo pos (starEach [] X.env)).any (·.1) = false := by rfl) : VE X ρ W (.Call (.Name "len" p) [o] [] pos) (mLenO dp mo) := by
  refine ⟨fun pins s σ H Q I h => ?_⟩
  obtain ⟨F, a, os, oo, R, e, q⟩ := h
  refine wpAny_Call_Name_kw (ld_blt I hg hm (u := .builtin "len") (by decide +kernel) ?_ (by decide) (by decide))
  have hq : tCons (tR X.K ρ W mo) tNil σ H (fun vs H1 => ∃ v, vs = [v] ∧ ∃ F1 a1 o1 g, RepAg X.K F1 σ [v] [g] ∧ Rep X.K ρ F1 H1 σ a1 o1 ∧ Fm F H os F1 H1 o1 ∧ (bnd (insOf none g) fun C => match dp C with | none => fun _ => none | some m => asLen (callA m [g])) a1 = some oo) :=
    tR.bind R e (fun x a' z => by subst z; exact q) fun g a1 F1 v H1 o1 e1 ra R1 f1 => ⟨v, rfl, F1, a1, o1, g, ra, R1, f1, e1⟩
  refine PyProof.Rows.callWith_builtin1 (thn ((pa_cons ho pa_nil he).run pos pins s σ H _ I hq) fun us s1 ⟨vs, H1, I1, r1, v, ev, F1, a1, o1, g, ra, R1, f1, e1⟩ => ?_) he hpl
  subst ev
  obtain ⟨u, eu, ru⟩ := vals1 r1
  subst eu
  obtain ⟨C, qa, dx, fs, e2, ev, hq, hl⟩ := mth_split R1 ra e1
  subst ev
  obtain rfl : u = Value.ref qa := ru
  cases zd : dp C with
  | none => simp [zd] at e2
  | some m =>
    simp only [zd] at e2
    obtain ⟨f, d, cal⟩ := hd C m zd
    obtain ⟨ox, od, J⟩ := insAt I1 hq
    obtain ⟨mm, hF⟩ := I1.fr
    refine PySem.W.len_K hF I1.ok.mod.kin J d.at_ d.fn ?_
    unfold asLen at e2
    have hs : spC X.K m ([.ref qa] ++ []) H1 (fun z H2 => ∃ n : Int, z = .int n ∧ (0 ≤ n ∧ n < 2 ^ 63) ∧ Q (.int n) H2) (fun c d H => W c d σ H) := by
      cases zc : callA m [g] a1 with
      | none => simp [bnd, zc] at e2
      | some oc =>
        cases oc with
        | ex x a2 =>
          simp [bnd, zc] at e2
          subst e2
          exact callA_ok R1 ra zc fun F' H' os' c d R' f' rx => q F' H' os' c d R' (f1.trans f') rx
        | ok r a2 =>
          simp only [bnd, zc] at e2
          split at e2
          · rename_i n
            split at e2
            · rename_i hh
              cases e2
              refine callA_ok R1 ra zc fun F' v H' os' R' f' => ?_
              obtain ⟨rd, R2⟩ := R'.top
              cases rd
              exact ⟨n, rfl, hh, q F' _ H' os' R' (f1.trans f')⟩
            · cases e2
          · cases e2
    refine wpAny_mono (cal pins σ H1 s1 [.ref qa] [] [.ref qa] [] _ I1 (.cons rfl .nil) .nil rfl hs) (fun v s2 ⟨z, H2, I2, rz, n, ez, hh, q2⟩ => ?_) fun _ _ x => x
    subst ez
    obtain ⟨t, e⟩ := (show ∃ t, v = Value.int n t from rz)
    subst e
    exact ⟨hh, .int n, H2, I2.tok _, ⟨_, rfl⟩, q2⟩
/-- two operands -/
def mOwn2 (dp : Disp) (mo : M Ag) (mB : M D) : M Sl := bnd mo fun g => bnd mB fun d => bnd (insOf none g) fun C => match dp C with
  | none => fun _ => none
  | some m => callA m [g, .v d]
theorem own2_read {dp : Disp} {σ : L2.St} {H : Hp} {Q : VK} (h : tE K ρ W (mOwn2 dp mo mB) σ H Q) : tR K ρ W mo σ H fun x H1 => tD K ρ W mB σ H1 fun y H2 => ∃ C q dx fs m, dp C = some m ∧ x = .ref q ∧ H2 q = some (.ins C dx fs) ∧ spC K m ([.ref q, y] ++ []) H2 Q (fun c d H => W c d σ H) := by
  obtain ⟨F, a, os, oo, R, e, q⟩ := h
  refine tR.bind R e (fun x a' z => by subst z; exact q) fun g a1 F1 v H1 o1 e1 ra R1 f1 => ?_
  refine tD.bind R1 e1 (fun x a' z => by subst z; exact exOf.step q f1) fun d a2 F2 y H2 o2 e2 rd R2 f2 => ?_
  have ra2 := ra.mono f2.mono
  obtain ⟨C, qa, dx, fs, e3, ev, hq, hl⟩ := mth_split R2 ra2 e2
  subst ev
  cases zd : dp C with
  | none => simp [zd] at e3
  | some m =>
    simp only [zd] at e3
    refine ⟨C, qa, dx, fs, m, zd, rfl, hq, callA_ok R2 (repAg_app (v1 := [.ref qa]) (g1 := [g]) ra2 (.v rd .nil)) e3 ?_⟩
    cases oo with
    | ok r a' => exact fun F' v H' os' R' f' => q F' v H' os' R' ((f1.trans f2).trans f')
    | ex x a' => exact fun F' H' os' c d R' f' rx => q F' H' os' c d R' ((f1.trans f2).trans f') rx
/-- o[e] -/
theorem ve_itemO {dp : Disp} (ho : VR X ρ W o mo) (hb : VD X ρ W e2 mB) (hd : ∀ C m, dp C = some m → ∃ f, Dun X.K C "__getitem__" f ∧ Cal X W X.A.in1 (.ref f) [] m) (hs : ∀ (x : Addr) i, subscripted e2 true (.ref x) i = runValue (.builtin "lifetime.subscript" ⟨[.ref x, i], []⟩)) :
    VE X ρ W (.Subscript o e2 pos) (mOwn2 dp mo mB) := by
  refine ⟨fun pins s σ H Q I h => ?_⟩
  refine Subscript_ (binT ho hb I (own2_read h) fun v u s2 x y H2 I2 rx ry ⟨C, q, dx, fs, m, zd, ex, hq, hsp⟩ => ?_)
  subst ex
  obtain rfl : v = Value.ref q := rx
  obtain ⟨f, d, cal⟩ := hd C m zd
  obtain ⟨ox, od, J⟩ := insAt I2 hq
  obtain ⟨mm, hF⟩ := I2.fr
  exact PySem.W.sub_K hF I2.ok.mod.kin J d.at_ d.fi d.fn (cal pins σ H2 s2 [.ref q, u] [] [.ref q, y] [] Q I2 (.cons rfl (.cons ry .nil)) .nil rfl hsp) (hs _ _)
/-- an instance of C -/
def insD (C : Addr) : D → Bool
  | .ins C' _ => C' == C
  | _ => false
def mOwnB (dp : Disp) (mo : M Ag) (mB : M D) : M Sl := bnd mo fun g => bnd mB fun d => bnd (insOf none g) fun C => match dp C with
  | none => fun _ => none
  | some m => if insD C d then callA m [g, .v d] else fun _ => none
theorem ownB_read {dp : Disp} {σ : L2.St} {H : Hp} {Q : VK} (h : tE K ρ W (mOwnB dp mo mB) σ H Q) : tR K ρ W mo σ H fun x H1 => tD K ρ W mB σ H1 fun y H2 => ∃ C q dx fs m r dy gs, dp C = some m ∧ x = .ref q ∧ H2 q = some (.ins C dx fs) ∧ y = .ref r ∧ H2 r = some (.ins C dy gs) ∧ spC K m ([.ref q, y] ++ []) H2 Q (fun c d H => W c d σ H) := by
  obtain ⟨F, a, os, oo, R, e, q⟩ := h
  refine tR.bind R e (fun x a' z => by subst z; exact q) fun g a1 F1 v H1 o1 e1 ra R1 f1 => ?_
  refine tD.bind R1 e1 (fun x a' z => by subst z; exact exOf.step q f1) fun d a2 F2 y H2 o2 e2 rd R2 f2 => ?_
  have ra2 := ra.mono f2.mono
  obtain ⟨C, qa, dx, fs, e3, ev, hq, hl⟩ := mth_split R2 ra2 e2
  subst ev
  cases zd : dp C with
  | none => simp [zd] at e3
  | some m =>
    simp only [zd] at e3
    split at e3
    · rename_i hi
      have : ∃ r dy gs, y = .ref r ∧ H2 r = some (.ins C dy gs) := by
        cases rd with
        | ins hF _ =>
          obtain rfl := beq_iff_eq.mp hi
          exact ⟨_, _, _, rfl, R2.sub _ _ hF⟩
        | _ => cases hi
      obtain ⟨r, dy, gs, ey, hr⟩ := this
      refine ⟨C, qa, dx, fs, m, r, dy, gs, zd, rfl, hq, ey, hr, callA_ok R2 (repAg_app (v1 := [.ref qa]) (g1 := [g]) ra2 (.v rd .nil)) e3 ?_⟩
      cases oo with
      | ok r a' => exact fun F' v H' os' R' f' => q F' v H' os' R' ((f1.trans f2).trans f')
      | ex x a' => exact fun F' H' os' c d R' f' rx => q F' H' os' c d R' ((f1.trans f2).trans f') rx
    · cases e3
/-- a + b, both of one class -/
theorem ve_binO {dp : Disp} {op : Operator} (ho : VR X ρ W e1 mo) (hb : VD X ρ W e2 mB) (hd : ∀ C m, dp C = some m → ∃ f, PySem.W.selfFirst X.K C = true ∧ Dun X.K C (PySem.dunder op.info.2) f ∧ Cal X W X.A (.ref f) [] m) :
    VE X ρ W (.BinOp e1 op e2 pos) (mOwnB dp mo mB) := by
  refine ⟨fun pins s σ H Q I h => ?_⟩
  refine wpAny_BinOp (binT ho hb I (ownB_read h) fun v u s2 x y H2 I2 rx ry ⟨C, q, dx, fs, m, r, dy, gs, zd, ex, hq, ey, hr, hsp⟩ => ?_)
  subst ex
  subst ey
  obtain rfl : v = Value.ref q := rx
  obtain rfl : u = Value.ref r := ry
  obtain ⟨f, sf, d, cal⟩ := hd C m zd
  obtain ⟨ox, od, J⟩ := insAt I2 hq
  obtain ⟨ox2, od2, J2⟩ := insAt I2 hr
  obtain ⟨mm, hF⟩ := I2.fr
  refine PySem.W.binop_K hF I2.ok.mod.kin J J2.type sf d.at_ d.fn ?_
  exact wpAny_mono (cal pins σ H2 s2 [.ref q, .ref r] [] [.ref q, .ref r] [] Q I2 (.cons rfl (.cons rfl .nil)) .nil rfl hsp) (fun v s3 ⟨z, H3, I3, rz, q3⟩ => SlX.cmpback rz ⟨z, H3, I3, rz, q3⟩) fun _ _ x => x
end

/-! ### a += b without an own in-place def -/
section
variable {M' : Model} {K : PySem.W.Frag} {C : Addr} {nm : String}
def noIn (K : PySem.W.Frag) (C : Addr) (op : Operator) : Bool := (PySem.W.clsIn K C).any fun cd => cd.mro.all fun c => PySem.W.findIn K c (dunderI op.info.2) == some none
theorem anyI {h : Heap} {add : Bool} (X : K.In h) : ∀ {l : List Value}, (l.all fun c => PySem.W.findIn K c (dunderI nm) == some none) = true → PySem.W.Looks M' h (l.anyM fun c => do
    let some x ← typeLookup c (dunderI nm) | return false
    if let .type _ := c then return !isSeqSlot (some x)
    if !ownNameWrapper x (dunderI nm) then return true
    if !(← inheritsSeqSlot c (dunderI nm)) then return true
    if add then return (← seqSlot? c (dunderI nm)).isSome
    return false) false
  | [], _ => .now
  | n :: r, e => by
    obtain ⟨a, b⟩ := Bool.and_eq_true_iff.mp (List.all_cons ▸ e)
    have L : PySem.W.Looks M' h (typeLookup n (dunderI nm)) none := PySem.W.looks_findIn X (beq_iff_eq.mp a)
    intro A Q E s k q
    rw [List.anyM_cons]
    refine wpAny_bind (wpAny_bind (L A _ E s k ?_))
    exact wpAny_pure (anyI X b A Q E s k q)
theorem fillsI_none {h : Heap} {add : Bool} {cd : ClassData} (X : K.In h) (hc : PySem.W.clsIn K C = some cd) (hn : (cd.mro.all fun c => PySem.W.findIn K c (dunderI nm) == some none) = true) : PySem.W.Looks M' h (fillsInplaceSlot (.ref C) nm add) false := by
  have Lm : PySem.W.Looks M' h (mroOf (.ref C)) cd.mro := (PySem.W.looks_clsIn X hc).andThen (f := fun cd => pure cd.mro) .now
  unfold fillsInplaceSlot
  exact Lm.andThen (anyI X hn)
end
section
variable {prog : Program} {w : World} {A : Around} {E : Value → Shared → Prop} {s : Shared} {K : PySem.W.Frag} {x C f : Addr} {ox : Obj} {od : Option Obj}
theorem inplace_K {op : Operator} {b : Value} {Q : Value → Shared → Prop} (X : K.In s.heap) (I : PySem.W.InstAt s.heap x ox C od) (hb : PySem.W.Looks (model prog w) s.heap (typeOf b) (.ref C)) (hc : PySem.W.selfFirst K C = true) (hn : noIn K C op = true)
    (hs : PySem.W.findIn K (.ref C) (PySem.dunder op.info.2) = some (some (.ref f))) (hf : PySem.W.isFn K (.ref f) = true)
    (h : wpAny (model prog w) A (call (.ref f) [.ref x, b]) (PySem.W.CmpBack Q) E s) : wpAny (model prog w) A (inplaceOp op (.ref x) b) Q E s := by
  obtain ⟨cd, hcd, hm⟩ := PySem.W.any_some hc
  have hn' : (cd.mro.all fun c => PySem.W.findIn K c (dunderI op.info.2) == some none) = true := by
    obtain ⟨cd2, hc2, hm2⟩ := PySem.W.any_some hn
    rw [hcd] at hc2
    cases hc2
    exact hm2
  obtain ⟨rest, hm⟩ : ∃ rest, cd.mro = .ref C :: rest := by
    cases q : cd.mro with
    | nil => rw [q] at hm; cases hm
    | cons a r => rw [q] at hm; exact ⟨r, by rw [List.head?_cons] at hm; cases (beq_iff_eq.mp hm); rfl⟩
  unfold inplaceOp
  refine wpAny_holding (wpAny_bind (I.type.here (wpAny_bind ((fillsI_none X hcd hn').here ?_))))
  simp only [Bool.false_eq_true, if_false]
  refine wpAny_bind ?_
  unfold binaryOp1
  refine wpAny_bind (I.type.here (wpAny_bind (hb.here (wpAny_bind ((PySem.W.fills_K X hcd hm hs).here ?_)))))
  simp only [beq_self_eq_true, if_true]
  refine wpAny_bind (wpAny_pure ?_)
  simp only [Bool.and_false, Bool.false_eq_true, if_false, Bool.false_and]
  refine wpAny_bind (wpAny_pure ?_)
  simp only [Bool.false_eq_true, if_false]
  refine wpAny_bind (m := tryMethod (.ref x) _ b) ?_
  unfold tryMethod
  refine wpAny_bind (PySem.W.special_fn X I hs (beq_iff_eq.mp hf) (wpAny_mono h (fun v s' hv => ?_) fun _ _ e => e))
  cases v <;> first | exact hv.elim | exact wpAny_pure (wpAny_pure (wpAny_pure hv))
end
section
variable {X : Cx} {ρ : Nat → Addr} {W : WX} {K : PySem.W.Frag} {e1 e2 : Expr} {mB : M D} {pos pos' : Pos} {x : Str}
/-- x op= e, both of one class: i is the place of x -/
def mAugO (dp : Disp) (i : Nat) (mB : M D) : M Out := mSet i (bnd (rB i) fun g => bnd mB fun d => bnd (insOf none g) fun C => match dp C with
  | none => fun _ => none
  | some m => if insD C d then callA m [g, .v d] else fun _ => none)
theorem vs_augO {dp : Disp} {op : Operator} {i : Nat} (hN : X.N.Nodup) (hi : X.N[i]? = some x) (hx : Loc X.env.scope x) (hb : VD X ρ W e2 mB)
    (hd : ∀ C m, dp C = some m → ∃ f, PySem.W.selfFirst X.K C = true ∧ noIn X.K C op = true ∧ Dun X.K C (PySem.dunder op.info.2) f ∧ Cal X W X.A (.ref f) [] m) (hf : X.fn x = true ∨ X.env.scope.names.lookup x = some .local := by first | exact .inl rfl | exact .inr rfl | assumption) :
    VS X ρ W (.AugAssign (.Name x pos') op e2 pos) (mAugO dp i mB) := by
  refine ⟨fun pins s σ H D I h => ?_⟩
  obtain ⟨F, a, os, oo, R, e, q⟩ := h
  obtain ⟨m0, hn0, hl0⟩ := I.loc
  have hz : tE X.K ρ W (bnd (rB i) fun g => bnd mB fun d => bnd (insOf none g) fun C => match dp C with
      | none => fun _ => none
      | some m => if insD C d then callA m [g, .v d] else fun _ => none) σ H (fun v H1 => D.nx (σ.set i (some v)) H1) := by
    unfold mAugO mSet at e
    revert e
    generalize (bnd (rB i) fun g => bnd mB fun d => bnd (insOf none g) fun C => match dp C with
      | none => fun _ => none
      | some m => if insD C d then callA m [g, .v d] else fun _ => none) = ms
    intro e
    refine tE.bind R e (fun x a' z => by subst z; exact q.ex) fun s a1 F1 v H1 o1 e1 R1 f1 => ?_
    unfold mPut at e1
    split at e1
    · rename_i hi
      cases e1
      obtain ⟨os', R', f⟩ := R1.store hi
      exact q F1 _ H1 os' R' (f1.trans f)
    · cases e1
  have hread := ownB_read (mo := rB i) hz
  obtain ⟨F', a', os', o', R', e', q'⟩ := hread
  unfold rB at e'
  cases z : a'[i]? with
  | none => rw [z] at e'; cases e'
  | some sl =>
    rw [z] at e'
    obtain ⟨w, _, _, _, e1, _, h1, _⟩ := R'.sl.zip z
    have key : ∃ v, w = some v ∧ tD X.K ρ W mB σ H fun y H2 => ∃ C q dx fs m r dy gs, dp C = some m ∧ v = .ref q ∧ H2 q = some (.ins C dx fs) ∧ y = .ref r ∧ H2 r = some (.ins C dy gs) ∧ spC X.K m ([.ref q, y] ++ []) H2 (fun v H1 => D.nx (σ.set i (some v)) H1) (fun c d H => W c d σ H) := by
      cases h1 with
      | un => cases e'
      | fr h => cases e'; exact ⟨_, rfl, q' F' _ H os' (.b e1 .nil) R' Fm.refl⟩
      | ow h t => cases e'; exact ⟨_, rfl, q' F' _ H os' (.b e1 .nil) R' Fm.refl⟩
    obtain ⟨v, ew, hb'⟩ := key
    subst ew
    have vis : Vis X.env.scope x := by rcases hx with k | k; exact .inl k; exact .inr (.inl k)
    obtain ⟨u, r, l⟩ := hl0 i x v hi e1 vis
    refine wpAny_AugAssign_Name ?_
    have go : wpAny (model X.prog X.w) X.A (eval e2 X.env) (fun w s₂ => wpAny (model X.prog X.w) X.A (inplaceOp op u w) (fun r s₃ => wpAny (model X.prog X.w) X.A (storeName X.env x r) (fun _ => SP X pins D .next) X.xe s₃) X.xe s₂) X.xe s := by
      refine thn (hb.run pins s σ H _ I hb') fun w s1 ⟨y, H1, I1, r1, C, q, dx, fs, m, rr, dy, gs, zd, ex, hq, ey, hr, hsp⟩ => ?_
      subst ex
      subst ey
      obtain rfl : u = Value.ref q := r
      obtain rfl : w = Value.ref rr := r1
      obtain ⟨f, sf, ni, d, cal⟩ := hd C m zd
      obtain ⟨ox, od, J⟩ := insAt I1 hq
      obtain ⟨ox2, od2, J2⟩ := insAt I1 hr
      refine inplace_K I1.kIn J J2.type sf ni d.at_ d.fn ?_
      refine wpAny_mono (cal pins σ H1 s1 [.ref q, .ref rr] [] [.ref q, .ref rr] [] _ I1 (.cons rfl (.cons rfl .nil)) .nil rfl hsp) (fun v s3 ⟨z, H3, I3, rz, q3⟩ => SlX.cmpback rz ?_) fun _ _ x => x
      exact store_ok I3 hN hi hx rz (fun s4 I4 => ⟨_, H3, I4, q3⟩) hf
    rcases l with ⟨hk, hm⟩ | ⟨hk, c, hc, hcell⟩
    · exact wpAny_loadName_local I.ok.kind hk hn0 hm go
    · rcases hk with hk | hk
      · exact wpAny_loadName_cell I.ok.kind hk hc hcell go
      · rcases hx with k | k
        · have : X.env.scope.names.lookup x = some .free := hk
          rw [k] at this; cases this
        · have : X.env.scope.names.lookup x = some .free := hk
          rw [k] at this; cases this
end
end L3
end
section
namespace L3
open PySem PySem.Spec PyProof.Rows L2
section
variable {X : Cx} {ρ : Nat → Addr} {W : WX} {K : PySem.W.Frag} {e1 e2 e3 o : Expr} {mA mB mC : M D} {ms : M Sl} {es : List Expr} {pos p apos : Pos} {x nm : Str} {mo : M Ag}
/-! ### fields read -/
def fldOf (cs : Addr → Bool) (nm : Str) (g : Ag) : M D := fun a => match g with
  | .v (.ins C fs) => if cs C then (match fs.lookup nm with
    | some d => some (.ok d a)
    | none => none) else none
  | .b i => (match a[i]? with
    | some (.fr (.ins C fs)) => if cs C then (match fs.lookup nm with
      | some d => some (.ok d a)
      | none => none) else none
    | some (.ow _ (.ins C fs)) => if cs C then (match fs.lookup nm with
      | some (.fr d) => some (.ok d a)
      | _ => none) else none
    | _ => none)
  | _ => none
theorem RepFs.look {F H : Hp} : ∀ {vs : List (Str × V)} {fs : List (Str × Fd)} {os : List Addr} {f : Str} {d : Fd}, RepFs K F H vs fs os → fs.lookup f = some d → ∃ v o1, vs.lookup f = some v ∧ RepF K F H v d o1 ∧ ∀ p ∈ o1, p ∈ os
  | _, _, _, _, _, .nil, e => by simp at e
  | _, _, _, f, d, .cons (x := x) h r, e => by
    rw [List.lookup_cons] at e ⊢
    cases q : f == x with
    | true => rw [q] at e; cases e; exact ⟨_, _, rfl, h, fun p hp => List.mem_append_left _ hp⟩
    | false =>
      rw [q] at e
      obtain ⟨v, o1, h1, h2, h3⟩ := RepFs.look r e
      exact ⟨v, o1, h1, h2, fun p hp => List.mem_append_right _ (h3 p hp)⟩
theorem fldOf_ok {cs : Addr → Bool} {g : Ag} {F H : Hp} {σ : L2.St} {a : AS} {os : List Addr} {v : V} {o : Er D} (R : Rep K ρ F H σ a os) (ra : RepAg K F σ [v] [g]) (e : fldOf cs nm g a = some o) :
    ∃ d q C dx vs y, o = .ok d a ∧ cs C = true ∧ v = .ref q ∧ H q = some (.ins C dx vs) ∧ vs.lookup nm = some y ∧ RepD K F y d := by
  cases ra with
  | v h _ =>
    cases h with
    | ins hF r =>
      unfold fldOf at e
      simp only at e
      split at e
      · rename_i hc
        split at e
        · rename_i d hl
          cases e
          obtain ⟨y, hy, rd⟩ := r.look hl
          exact ⟨d, _, _, _, _, y, rfl, hc, rfl, R.sub _ _ hF, hy, rd⟩
        · cases e
      · cases e
    | _ => cases e
  | b h _ =>
    unfold fldOf at e
    simp only at e
    split at e
    · rename_i C' fs z
      split at e
      · rename_i hc
        split at e
        · rename_i d hl
          cases e
          obtain ⟨w, _, _, _, e1, _, h1, _⟩ := R.sl.zip z
          rw [h] at e1
          cases e1
          cases h1 with
          | fr h1 =>
            cases h1 with
            | ins hF r =>
              obtain ⟨y, hy, rd⟩ := r.look hl
              exact ⟨d, _, _, _, _, y, rfl, hc, rfl, R.sub _ _ hF, hy, rd⟩
        · cases e
      · cases e
    · rename_i t C' fs z
      split at e
      · rename_i hc
        split at e
        · rename_i d hl
          cases e
          obtain ⟨w, _, _, _, e1, _, h1, _⟩ := R.sl.zip z
          rw [h] at e1
          cases e1
          cases h1 with
          | ow h1 t1 =>
            cases h1 with
            | ins hF r =>
              obtain ⟨y, o1, hy, rf, _⟩ := r.look hl
              cases rf with
              | fr rd => exact ⟨d, _, _, _, _, y, rfl, hc, rfl, hF, hy, rd⟩
        · cases e
      · cases e
    · cases e
/-- e.f, a field that is frozen -/
def mFld (cs : Addr → Bool) (nm : Str) (mo : M Ag) : M D := bnd mo (fldOf cs nm)
theorem vd_fld {cs : Addr → Bool} (ho : VR X ρ W o mo) (hc : ∀ C, cs C = true → Cls X.K C ∧ NoAttr X.K C nm) (hb : attributeBase o nm X.env (eval o X.env) = eval o X.env := by rfl) : VD X ρ W (.Attribute o nm pos) (mFld cs nm mo) :=
  PE.imp (pe_fld ho hb) fun σ H Q ⟨F, a, os, oo, R, e, q⟩ => by
    refine tR.bind R e (fun x a' z => by subst z; exact q) fun g a1 F1 v H1 o1 e1 ra R1 f1 => ?_
    obtain ⟨d, qa, C, dx, vs, y, eo, hcs, ev, hq, hy, rd⟩ := fldOf_ok R1 ra e1
    subst eo
    obtain ⟨c, n⟩ := hc C hcs
    exact ⟨qa, C, dx, vs, y, ev, hq, c, n, hy, q F1 y H1 o1 rd R1 f1⟩

/-! ### fields stored -/
def putFd (f : Str) (v : Fd) : List (Str × Fd) → List (Str × Fd)
  | [] => [(f, v)]
  | (g, x) :: r => if g = f then (g, v) :: r else (g, x) :: putFd f v r
theorem RepFs.put {F H : Hp} {f : Str} {y : V} {fd : Fd} {oy : List Addr} (hy : RepF K F H y fd oy) : ∀ {vs : List (Str × V)} {fs : List (Str × Fd)} {os : List Addr}, RepFs K F H vs fs os → ∃ os', RepFs K F H (putF f y vs) (putFd f fd fs) os' ∧ SubP os' (oy ++ os)
  | _, _, _, .nil => ⟨oy ++ [], .cons hy .nil, SubP.sub (List.Sublist.refl _)⟩
  | _, _, _, .cons (x := x) (o1 := o1) (o2 := o2) h r => by
    unfold putF putFd
    by_cases e : x = f
    · rw [if_pos e, if_pos e]
      exact ⟨oy ++ o2, .cons hy r, SubP.sub (List.Sublist.append (List.Sublist.refl _) (List.sublist_append_right _ _))⟩
    · rw [if_neg e, if_neg e]
      obtain ⟨os', r', s'⟩ := RepFs.put hy r
      refine ⟨o1 ++ os', .cons h r', (s'.app o1).trans (SubP.perm ?_)⟩
      rw [← List.append_assoc, ← List.append_assoc]
      exact List.Perm.append_right _ List.perm_append_comm
theorem RepFs.len {F H : Hp} : ∀ {vs : List (Str × V)} {fs : List (Str × Fd)} {os : List Addr}, RepFs K F H vs fs os → vs.length = fs.length
  | _, _, _, .nil => rfl
  | _, _, _, .cons _ r => congrArg (· + 1) r.len
/-- what is stored -/
def fdOf : Sl → Option Fd
  | .fr d => some (.fr d)
  | .ow none (.lst l) => some (.ow l)
  | .ow none (.ins C fs) => some (.fr (frzOb (.ins C fs)))
  | _ => none
/-- x.f = e, x the i-th name, its instance owned -/
def mSetF (cs : Addr → Bool) (i : Nat) (f : Str) (m : M Sl) : M Out := bnd m fun s => fun a => match a[i]?, s with
  | some (.ow t (.ins C fs)), .fr d => if cs C && decide (fs.length < 1000) then some (.ok .nx (a.set i (.ow t (.ins C (putFd f (.fr d) fs))))) else none
  | some (.ow t (.ins C fs)), .ow none (.lst l) => if cs C && decide (fs.length < 1000) then some (.ok .nx (a.set i (.ow t (.ins C (putFd f (.ow l) fs))))) else none
  | _, _ => none
theorem Rep.insPut {F H : Hp} {σ : L2.St} {a : AS} {os oy : List Addr} {i : Nat} {t : Option Nat} {C : Addr} {fs : List (Str × Fd)} {f : Str} {y : V} {fd : Fd} (R : Rep K ρ F H σ a os) (e : a[i]? = some (.ow t (.ins C fs))) (hy : RepF K F H y fd oy) (nd : (oy ++ os).Nodup) (nf : ∀ p ∈ oy, F p = none) :
    ∃ q dx vs, σ[i]? = some (some (.ref q)) ∧ H q = some (.ins C dx vs) ∧ vs.length = fs.length ∧ ∃ os', Rep K ρ F (upd H q (.ins C dx (putF f y vs))) σ (a.set i (.ow t (.ins C (putFd f fd fs)))) os' ∧ Fm F H (oy ++ os) F (upd H q (.ins C dx (putF f y vs))) os' := by
  obtain ⟨v, o1, oi, o2, e1, e2, h1, h2⟩ := R.sl.zip e
  cases h1 with
  | ow h ht =>
    cases h with
    | ins h r =>
      rename_i q dx vs of
      subst e2
      have nq : F q = none := R.nf q (by simp)
      have ndd : (q :: (of ++ (oy ++ (o1 ++ o2)))).Nodup := by
        refine perm_nodup ?_ nd
        have q1 : (oy ++ (o1 ++ q :: of ++ o2)).Perm (q :: (oy ++ (o1 ++ of ++ o2))) := by
          have : (o1 ++ q :: of ++ o2) = o1 ++ q :: (of ++ o2) := by simp
          rw [this]
          refine (List.Perm.append_left oy (List.perm_middle)).trans ?_
          rw [List.append_assoc]
          exact List.perm_middle
        refine q1.trans (List.Perm.cons _ ?_)
        have q2 : (o1 ++ of ++ o2).Perm (of ++ (o1 ++ o2)) := by
          rw [← List.append_assoc]
          exact List.Perm.append_right _ List.perm_append_comm
        refine (List.Perm.append_left oy q2).trans ?_
        rw [← List.append_assoc, ← List.append_assoc of]
        exact List.Perm.append_right _ List.perm_append_comm
      have nq2 := List.nodup_cons.mp ndd
      obtain ⟨of', r', s'⟩ := RepFs.put (f := f) hy r
      have inn : ∀ p ∈ of', p ∈ of ++ (oy ++ (o1 ++ o2)) := fun p hp => by
        have := s'.2 p hp
        rcases List.mem_append.mp this with h | h
        · exact List.mem_append_right _ (List.mem_append_left _ h)
        · exact List.mem_append_left _ h
      have r2 : RepFs K F (upd H q (.ins C dx (putF f y vs))) (putF f y vs) (putFd f fd fs) of' := r'.move (fun _ _ e => e) fun p hp => upd_ne fun z => nq2.1 (z ▸ inn p hp)
      have z := h2 F (upd H q (.ins C dx (putF f y vs))) (some (.ref q)) (.ow t (.ins C (putFd f fd fs))) (q :: of') (fun _ _ e => e) (fun p hp => upd_ne fun z => nq2.1 (z ▸ List.mem_append_right _ (List.mem_append_right _ hp))) (.ow (.ins upd_same r2) ht)
      rw [set_same e1] at z
      have sp : SubP (o1 ++ q :: of' ++ o2) (oy ++ (o1 ++ q :: of ++ o2)) := by
        have p1 : (o1 ++ q :: of' ++ o2).Perm (o1 ++ q :: (o2 ++ of')) := by
          rw [List.append_assoc, List.cons_append]
          exact List.Perm.append_left _ (List.Perm.cons _ List.perm_append_comm)
        have p2 : SubP (o1 ++ q :: (o2 ++ of')) (o1 ++ q :: (o2 ++ (oy ++ of))) := by
          have := ((s'.app o2).app [q]).app o1
          simpa using this
        refine (SubP.perm p1).trans (p2.trans (SubP.perm ?_))
        have p3 : (o1 ++ q :: (o2 ++ (oy ++ of))).Perm (oy ++ (o1 ++ q :: (o2 ++ of))) := by
          have a1 : (o1 ++ q :: (o2 ++ (oy ++ of))) = (o1 ++ q :: o2) ++ (oy ++ of) := by simp
          have a2 : (oy ++ (o1 ++ q :: (o2 ++ of))) = oy ++ ((o1 ++ q :: o2) ++ of) := by simp
          rw [a1, a2, ← List.append_assoc, ← List.append_assoc]
          exact List.Perm.append_right _ List.perm_append_comm
        refine p3.trans (List.Perm.append_left _ ?_)
        rw [List.append_assoc, List.cons_append]
        exact List.Perm.append_left _ (List.Perm.cons _ List.perm_append_comm)
      refine ⟨q, dx, vs, e1, h, r.len, o1 ++ q :: of' ++ o2, ⟨fun p u z => ?_, z, sp.1 nd, fun p hp => ?_⟩, ⟨fun _ _ e => e, fun p o e n => ?_, fun p hp => .inl (sp.2 p hp), fun _ h h' => absurd h h', fun p hp => ?_⟩⟩
      · rw [upd_ne fun z2 => by rw [z2, nq] at z; cases z]
        exact R.sub p u z
      · rcases List.mem_append.mp (sp.2 p hp) with h | h
        · exact nf p h
        · exact R.nf p h
      · rw [upd_ne fun z => n (by rw [z]; simp)]
        exact e
      · by_cases z : p = q
        · rw [z, upd_same]; simp
        · rw [upd_ne z]; exact hp
theorem vs_setF {cs : Addr → Bool} (i : Nat) {q' : Pos} (hn : PE X o (tVar i)) (he : VE X ρ W e1 ms) (hc : ∀ C, cs C = true → Cls X.K C ∧ NoAttr X.K C nm) (hs : swapsWith e1 (some (.Attribute o nm q')) pos.line X.env = pure false := by rfl) :
    VS X ρ W (.Assign [.Attribute o nm q'] e1 pos) (mSetF cs i nm ms) := PS.imp (ps_fld hn he hs) fun D' σ H ⟨F, a, os, oo, R, e, q⟩ => by
  refine tE.bind R e (fun x a' z => by subst z; exact q.ex) fun s a1 F1 y H1 o1 e1 R1 f1 => ?_
  have go : ∀ {fd : Fd} {t : Option Nat} {C : Addr} {fs : List (Str × Fd)}, a1[i]? = some (.ow t (.ins C fs)) → (cs C && decide (fs.length < 1000)) = true → some (Er.ok Out.nx (a1.set i (.ow t (.ins C (putFd nm fd fs))))) = some oo → (∃ oy o2, RepF X.K F1 H1 y fd oy ∧ Rep X.K ρ F1 H1 σ a1 o2 ∧ (oy ++ o2).Nodup ∧ (∀ p ∈ oy, F1 p = none) ∧ Fm F H os F1 H1 (oy ++ o2)) →
      tVar i σ H1 fun x H2 => ∃ a C dx fs, x = .ref a ∧ H2 a = some (.ins C dx fs) ∧ Cls X.K C ∧ NoAttr X.K C nm ∧ fs.length < 1000 ∧ D'.nx σ (upd H2 a (.ins C dx (putF nm y fs))) := fun {fd t C fs} z hh ee ⟨oy, o2, hy, R2, nd, nf, f2⟩ => by
    cases ee
    obtain ⟨qa, dx, vs, e1, hq, hl, os', R3, f3⟩ := R2.insPut (f := nm) z hy nd nf
    simp only [Bool.and_eq_true, decide_eq_true_eq] at hh
    obtain ⟨c, n⟩ := hc C hh.1
    exact ⟨_, e1, qa, C, dx, vs, rfl, hq, c, n, by rw [hl]; exact hh.2, q F1 σ _ os' R3 (f2.trans f3)⟩
  obtain ⟨x1, x2, eo, hs1, R2, f2⟩ := R1.tail
  subst eo
  have nd := R1.nd
  have nf : ∀ p ∈ x1, F1 p = none := fun p hp => R1.nf p (List.mem_append_left _ hp)
  split at e1
  · rename_i t C fs d z
    split at e1
    · rename_i hh
      cases hs1 with
      | fr rd => exact go z hh e1 ⟨[], x2, .fr rd, R2, by simpa using nd, fun p hp => absurd hp List.not_mem_nil, f1⟩
    · cases e1
  · rename_i t C fs l z
    split at e1
    · rename_i hh
      cases hs1 with
      | ow hob _ =>
        cases hob with
        | lst hq rl => exact go z hh e1 ⟨_, x2, .ow hq rl, R2, nd, nf, f1⟩
    · cases e1
  · cases e1

/-! ### isinstance by an own class -/
/-- what isinstance asks of the class of an instance -/
structure IsiC (K : PySem.W.Frag) (C : Addr) : Prop where
  c : Cls K C
  ca : PySem.W.findIn K (.ref C) "__class__" = some (some (.builtin "object.__class__"))
  cn : PySem.W.specialIn K (.builtin "object.__class__") "__get__" = some (some (.builtin "getset_descriptor.__get__"))
  ct : PySem.W.takesIn K (.builtin "object.__class__") = some true
  cm : PySem.W.mroIn K C (.type "object") = some true
/-- no built-in value is an instance of C -/
structure NotB (K : PySem.W.Frag) (C : Addr) : Prop where
  non : PySem.W.kitOne K (.type "NoneType") (.ref C) = some false
  bl : PySem.W.kitOne K (.type "bool") (.ref C) = some false
  int : PySem.W.kitOne K (.type "int") (.ref C) = some false
  str : PySem.W.kitOne K (.type "str") (.ref C) = some false
  tup : PySem.W.kitOne K (.type "tuple") (.ref C) = some false
  lst : PySem.W.kitOne K (.type "list") (.ref C) = some false
/-- by the class of the value: sub gives the answer for own classes -/
def isOwn (sub : Addr → Option Bool) : D → Option Bool
  | .ins C _ => sub C
  | .opq _ => none
  | .ty _ => none
  | _ => some false
def mIsO (sub : Addr → Option Bool) (m : M D) : M D := m1 (fun d => match isOwn sub d with
  | some b => some (.bl b)
  | none => none) m
theorem vd_glob {C : Addr} (hg : Gl X x) (hm : X.mg x = some (.ref C)) (hd : (x == ("__debug__" : Str)) = false := by decide) : PE X (.Name x p) (tC (.ref C)) := ⟨fun pins s σ H Q I h => ld_glob I hg hm ⟨.ref C, H, I, rfl, h⟩ hd⟩
theorem vd_isO {sub : Addr → Option Bool} {C : Addr} {px : Pos} (nb : NotB X.K C) (hs : ∀ C' b, sub C' = some b → IsiC X.K C' ∧ PySem.W.kitOne X.K (.ref C') (.ref C) = some b) (hg : Gl X "isinstance") (hm : X.mg "isinstance" = none) (hg2 : Gl X x) (hm2 : X.mg x = some (.ref C)) (ha : VD X ρ W e1 mA)
    (hd : (x == ("__debug__" : Str)) = false := by decide) (he : starEach [e1, .Name x px] X.env = (false, eval e1 X.env) :: starEach [.Name x px] X.env := by rfl) (he2 : starEach [.Name x px] X.env = (false, eval (.Name x px) X.env) :: starEach [] X.env := by rfl)
    (hpl : (backTo pos (starEach [.Name x px] X.env)).any (·.1) = false := by rfl) : VD X ρ W (.Call (.Name "isinstance" p) [e1, .Name x px] [] pos) (mIsO sub mA) :=
  PE.imp (pe_callB call_isi hg hm (by decide +kernel) (pa_cons ha (pa_cons (vd_glob hg2 hm2 hd) pa_nil he2) he) (by decide) (by decide) he hpl) fun σ H Q ⟨F, a, os, o, R, e, q⟩ => by
    refine tD.bind R e (fun x a' z => by subst z; exact q) fun y a2 F2 v2 H2 o2 e2 r2 R2 f2 => ?_
    cases z : isOwn sub y with
    | none => simp [lift, z] at e2
    | some b =>
      simp [lift, z] at e2
      subst e2
      have key : ∃ t, TyX X.K H2 v2 t ∧ PySem.W.kitOne X.K t (.ref C) = some b := by
        cases r2 with
        | non => cases z; exact ⟨_, .base .non, nb.non⟩
        | bl c => cases z; exact ⟨_, .base (.bl _), nb.bl⟩
        | int c => cases z; exact ⟨_, .base (.int _), nb.int⟩
        | str c => cases z; exact ⟨_, .base (.str _), nb.str⟩
        | tup h _ => cases z; exact ⟨_, tyx_tup R2.sub h, nb.tup⟩
        | lst h _ => cases z; exact ⟨_, tyx_lst R2.sub (SqL.of h), nb.lst⟩
        | scr h _ => cases z; exact ⟨_, tyx_lst R2.sub h, nb.lst⟩
        | ins hF _ =>
          obtain ⟨i, k⟩ := hs _ _ z
          exact ⟨_, .base (.ins (R2.sub _ _ hF) i.c i.ca i.cn i.ct i.cm), k⟩
        | opq a => cases z
        | ty n => cases z
      obtain ⟨t, ty, kk⟩ := key
      exact ⟨v2, _, t, .ref C, b, rfl, .own C, ty, kk, q F2 _ H2 o2 (.bl b) R2 f2⟩
end
end L3
end
section
namespace L3
open PySem PySem.Spec PyProof.Rows L2
/-! ### the head: what is asked of the written part -/
def obsX (b : PySem.W.Frag → Bool) (fn : List He5.DefA) (K : PySem.W.Frag) : He.AlD := (b K && fn.all (·.ok K), fn.map fun d => He5.fnA K (d.at_ K))
def valX (fn : List He5.DefA) : He.AlD := (true, fn.map He5.DefA.val)
def SaysX (b : PySem.W.Frag → Bool) (fn : List He5.DefA) (K : PySem.W.Frag) : Prop := obsX b fn K = valX fn
def obsXG (n : Nat) (b : PySem.W.Frag → Bool) (fn : List He5.DefA) (g : Addr → Option Obj) : He.AlD := obsX b fn (He.frG g (He5.asA g n))
def hookX (n : Nat) (b : PySem.W.Frag → Bool) (fn : List He5.DefA) : PySem.W.Hook :=
  { α := He.AlD, obs := fun s => obsXG n b fn s.heap.get?, val := fun _ => valX fn, says := fun _ h => ∃ K : PySem.W.Frag, K.In h ∧ SaysX b fn K,
    of := fun _ _ e => ⟨_, He.frG_in, e⟩, keeps := fun _ _ _ ⟨K, hK, c⟩ k => ⟨K, hK.keeps k, c⟩ }
theorem obsXG_eq {n : Nat} {b : PySem.W.Frag → Bool} {fn : List He5.DefA} {g : Addr → Option Obj} {s : Shared} (h : ∀ a, g a = s.heap.get? a) : obsXG n b fn g = (hookX n b fn).obs s := by
  obtain rfl : g = s.heap.get? := funext h
  rfl
section
variable {b : PySem.W.Frag → Bool} {fn : List He5.DefA} {K : PySem.W.Frag}
theorem SaysX.bool (c : SaysX b fn K) : b K = true := (Bool.and_eq_true_iff.mp (congrArg Prod.fst c)).1
theorem SaysX.fun_ (c : SaysX b fn K) (i : Nat) {d : He5.DefA} (h : fn[i]? = some d := by rfl) : ∃ fd, FunD K d.name d.qual d.params d.body d.scope (d.dvs K) (d.kws K) (d.at_ K) fd := by
  have c2 := (Bool.and_eq_true_iff.mp (congrArg Prod.fst c)).2
  have e : (fn.map fun d => He5.fnA K (d.at_ K))[i]? = (fn.map He5.DefA.val)[i]? := congrArg (·[i]?) (congrArg Prod.snd c)
  simp only [List.getElem?_map, h, Option.map_some, Option.some.injEq] at e
  exact He5.DefA.funD e (List.all_eq_true.mp c2 d (List.mem_of_getElem? h))
end
/-! ### facts of classes, as answers -/
def andAll : List Bool → Bool
  | [] => true
  | a :: r => a && andAll r
theorem andAll_at : ∀ {l : List Bool} (i : Nat) {c : Bool}, andAll l = true → l[i]? = some c → c = true
  | [], _, _, _, e => by simp at e
  | a :: r, 0, c, h, e => by
    simp at e
    subst e
    exact (Bool.and_eq_true_iff.mp h).1
  | a :: r, i + 1, c, h, e => andAll_at i (Bool.and_eq_true_iff.mp h).2 (by simpa using e)
section
variable (K : PySem.W.Frag) (C : Addr)
def isiB : Bool := He.eqO (PySem.W.findIn K (.ref C) "__class__") (some (some (.builtin "object.__class__"))) && (He.eqO (PySem.W.specialIn K (.builtin "object.__class__") "__get__") (some (some (.builtin "getset_descriptor.__get__"))) &&
  (decide (PySem.W.takesIn K (.builtin "object.__class__") = some true) && decide (PySem.W.mroIn K C (.type "object") = some true)))
def notBB : Bool := decide (PySem.W.kitOne K (.type "NoneType") (.ref C) = some false) && (decide (PySem.W.kitOne K (.type "bool") (.ref C) = some false) && (decide (PySem.W.kitOne K (.type "int") (.ref C) = some false) &&
  (decide (PySem.W.kitOne K (.type "str") (.ref C) = some false) && (decide (PySem.W.kitOne K (.type "tuple") (.ref C) = some false) && decide (PySem.W.kitOne K (.type "list") (.ref C) = some false)))))
def kitB2 (C' : Addr) (b : Bool) : Bool := decide (PySem.W.kitOne K (.ref C') (.ref C) = some b)
def dunB (nm : Str) : Bool := He.eqO (PySem.W.findIn K (.ref C) nm) (some (some (.ref (He.ma K C nm)))) && (PySem.W.isFn K (.ref (He.ma K C nm)) && PySem.W.fnIn K (He.ma K C nm))
def propB (nm : Str) : Bool := He.eqO (PySem.W.findIn K (.ref C) nm) (some (some (.ref (He.ma K C nm)))) && (He.eqO (PySem.W.specialIn K (.ref (He.ma K C nm)) "__get__") (some (some (.builtin "property.__get__"))) &&
  (decide (PySem.W.takesIn K (.ref (He.ma K C nm)) = some true) && (match PySem.W.recIn K (He.ma K C nm) "property" with
    | some (.ref _ :: _) => true
    | _ => false)))
def smB (nm : Str) : Bool := PySem.W.readsIn K C (.type "type") && (He5.wrapB K C "staticmethod" "staticmethod.__get__" nm && PySem.W.keepIn K (.ref (He5.wf K C "staticmethod" nm)))
def siB (nm : Str) : Bool := PySem.W.isClsIn K C && (He.eqO (PySem.W.findIn K (.ref C) nm) (some (some (.ref (He.ma K C nm)))) && (decide (PySem.W.typeIn K (.ref (He.ma K C nm)) = some (.type "staticmethod")) &&
  (He.eqO (PySem.W.specialIn K (.ref (He.ma K C nm)) "__get__") (some (some (.builtin "staticmethod.__get__"))) && (decide (PySem.W.takesIn K (.ref (He.ma K C nm)) = some false) && !PySem.W.copiedNames.contains nm))))
end
section
variable {K : PySem.W.Frag} {C C' : Addr} {nm : Str} {b : Bool}
theorem isi_of (c : Cls K C) (h : isiB K C = true) : IsiC K C := by
  simp only [isiB, Bool.and_eq_true, decide_eq_true_eq] at h
  exact ⟨c, He.eqO_ok h.1, He.eqO_ok h.2.1, h.2.2.1, h.2.2.2⟩
theorem notB_of (h : notBB K C = true) : NotB K C := by
  simp only [notBB, Bool.and_eq_true, decide_eq_true_eq] at h
  exact ⟨h.1, h.2.1, h.2.2.1, h.2.2.2.1, h.2.2.2.2.1, h.2.2.2.2.2⟩
theorem dun_of (h : dunB K C nm = true) : Dun K C nm (He.ma K C nm) := by
  simp only [dunB, Bool.and_eq_true] at h
  exact ⟨He.eqO_ok h.1, h.2.1, h.2.2⟩
theorem prop_of (h : propB K C nm = true) : PropOf K C nm (He.ma K C nm) (He5.wf K (C) "property" nm) := by
  simp only [propB, Bool.and_eq_true, decide_eq_true_eq] at h
  refine ⟨He.eqO_ok h.1, He.eqO_ok h.2.1, h.2.2.1, ?_⟩
  have z := h.2.2.2
  unfold He5.wf
  split at z
  · rename_i g r e
    exact ⟨r, by rw [e]⟩
  · cases z
theorem smet_of (h : smB K C nm = true) : SMet K C (.type "type") nm (He.ma K C nm) (He5.wf K C "staticmethod" nm) := by
  simp only [smB, Bool.and_eq_true] at h
  obtain ⟨h1, h2, h3⟩ := h
  obtain ⟨w1, w2⟩ := He5.wrapB_ok h2
  refine ⟨⟨h1, ?_⟩, w1, w2, h3⟩
  simp only [PySem.W.readsIn, Bool.and_eq_true, beq_iff_eq] at h1
  unfold PySem.W.specialIn
  rw [h1.1.1.1.2, Option.bind_some]
  exact h1.1.1.2
theorem sinst_of (c : Cls K C) (h : siB K C nm = true) (h2 : smB K C nm = true) : SInst K C nm (He.ma K C nm) (He5.wf K C "staticmethod" nm) := by
  simp only [siB, Bool.and_eq_true, decide_eq_true_eq, Bool.not_eq_true'] at h
  simp only [smB, Bool.and_eq_true] at h2
  exact ⟨c, h.1, He.eqO_ok h.2.1, h.2.2.1, He.eqO_ok h.2.2.2.1, h.2.2.2.2.1, h.2.2.2.2.2, (He5.wrapB_ok h2.2.1).2, h2.2.2⟩
end

/-! ### the law's call -/
theorem old_of {H H' : Hp} {P : Program} {w : World} {h h' : Heap} (hO : Only H) (ok : HOk P w H h) (ok' : HOk P w H' h') (un : Un (L2.frs []) [] H H' h h') : OldK h h' := by
  refine .of_keep fun b o e => ?_
  rcases hO b with z | ⟨ob, xs, z⟩
  · exact un.keep b o e z (fun q => absurd (show b ∈ ([] : List Addr) from q) List.not_mem_nil) (by simp)
  · have p1 := (ok b _ z).1
    have p2 := (ok' b _ (un.frzs b ob _ z)).1
    rw [p1] at e
    cases e
    exact p2
theorem lawG {P : Program} {w : World} {K : PySem.W.Frag} {mg mb : Str → Option Value} {k : Nat} {fa a : Addr} {fd : FuncData} {x : Str} {fm : FM} {s₁ : Shared} {vs : List Value} {ns : List Int}
    (KX : K.In s₁.heap) (hns : s₁.heap.Ns mainGlobals mg) (hb : s₁.heap.Ns builtinsNs mb) (hbb : ∀ x : Str, x ≠ "__name__" → mb x = bootBuiltins x) (hlim : s₁.heap.NoLimit) (hg : s₁.gens = #[])
    (ha : s₁.heap.get? a = some { cls := .type "list", data := .seq vs.toArray }) (hi : IntsAre vs ns) (hl : ns.length ≤ sizeLine) (hr : Room k callerA)
    (G : ∀ base : Heap, K.In base → base.Ns mainGlobals mg → FnG P w K mg base (L2.CX P w) k fa fd [x] (spM K 1 fm)) (hbind : ∀ (s : Shared) (u : Value), BindsTo s fd ⟨[u], []⟩ [(x, u)])
    (hsp : ∃ as', fm [.fr (.scr (ns.map .int))] = some (.ok (.fr (.bl true)) as')) :
    codeAny (model P w) callerA (.call (.ref fa) ⟨[.ref a], []⟩) (fun r s' => r = .ok (.ret (.bool true)) ∧ OldK s₁.heap s'.heap ∧ s'.os = s₁.os ∧ AllBare s'.gens) s₁ := by
  have rv := vals_ints hi
  have go : ∀ H : Hp, Only H → SqL K H a (ns.map V.int) → HOk P w H s₁.heap → (∀ c, H c ≠ none → c = a ∧ K.lookup a = none) →
      codeAny (model P w) callerA (.call (.ref fa) ⟨[.ref a], []⟩) (fun r s' => r = .ok (.ret (.bool true)) ∧ OldK s₁.heap s'.heap ∧ s'.os = s₁.os ∧ AllBare s'.gens) s₁ := by
    intro H hO hS hok hA
    have free : ∀ {c : Addr} {o : Obj}, s₁.heap.get? c = some o → (∀ n, o.data ≠ .seq vs.toArray n) → H c = none := fun {c o} e d => by
      by_cases q : H c = none
      · exact q
      · rw [(hA c q).1, ha] at e
        cases e
        exact absurd rfl (d _)
    have ns' : ∀ {c : Addr} {m : Str → Option Value}, s₁.heap.Ns c m → (hidT s₁.heap H).Ns c m := fun {c m} h => by
      obtain ⟨o, es, ep, e, d, r⟩ := h
      exact ⟨o, es, ep, hidT_get e (free e fun n z => by rw [d] at z; cases z), d, r⟩
    have kb : K.In (hidT s₁.heap H) := fun c o e => hidT_get (KX c o e) (by
      by_cases q : H c = none
      · exact q
      · obtain ⟨q1, q2⟩ := hA c q
        rw [q1, q2] at e
        cases e)
    have md : Mod K mg (hidT s₁.heap H) := by
      obtain ⟨mc, l1, l2⟩ := hlim
      exact ⟨kb, ns' hns, ⟨mb, ns' hb, hbb⟩, ⟨mc, ns' l1, l2⟩⟩
    have env : Env0 P w K mg (hidT s₁.heap H) callerA [] s₁ H :=
      ⟨rfl, md, fun b o e => of_hidT e, Nat.le_of_eq (hidT_size _ _), trivial, fun b q => absurd (show b ∈ ([] : List Addr) from q) List.not_mem_nil, hok, .of_eq hg⟩
    obtain ⟨as', he⟩ := hsp
    have rs : ∀ {ns : List Int}, RepL K H (ns.map V.int) (ns.map D.int) := fun {ns} => by
      induction ns with
      | nil => exact .nil
      | cons n r ih => exact .cons (.int n) ih
    have sp : spM K 1 fm [.ref a] H (fun v _ => v = .bl true) fun _ _ _ => False := by
      refine ⟨H, [.fr (.scr (ns.map .int))], [], _, rfl, ⟨fun _ _ e => e, .cons (o1 := []) (.fr (.scr hS rs)) .nil, List.nodup_nil, fun p hp => absurd hp List.not_mem_nil⟩, he, fun F' v H' os' R' f => ?_⟩
      obtain ⟨rd, _⟩ := R'.top
      cases rd
      rfl
    refine codeAny_mono ((G _ kb (ns' hns)).run callerA [] s₁ H ⟨[.ref a], []⟩ [.ref a] [.ref a] _ _ rfl hr env (hbind s₁ (.ref a)) (.cons rfl .nil) sp) fun r s' h => ?_
    match r, h with
    | .error e, h =>
      obtain ⟨_, _, _, _, _, _, _, _, _, _, _, _, z⟩ := h
      exact z.elim
    | .ok .next, h => exact False.elim h
    | .ok .brk, h => exact False.elim h
    | .ok .cont, h => exact False.elim h
    | .ok (.ret u), ⟨v, H', os, bare, un, hok', rv', q⟩ =>
      have q' : v = .bl true := q
      subst q'
      obtain rfl : u = Value.bool true := rv'
      exact ⟨rfl, old_of hO hok hok' un, os, bare⟩
  by_cases hk : K.lookup a = none
  · refine go (fun c => if c = a then some (.frz { cls := .type "list", data := .seq vs.toArray } (.lst (ns.map V.int))) else none) (fun c => ?_) (.inl (.inr ⟨_, if_pos rfl⟩)) (fun c u z => ?_) fun c z => ?_
    · by_cases e : c = a
      · exact .inr ⟨_, _, if_pos e⟩
      · exact .inl (if_neg e)
    · by_cases e : c = a
      · obtain rfl := Option.some.inj ((if_pos e).symm.trans z)
        rw [e]
        exact ⟨ha, by rw [List.length_map]; exact hl, vs, _, rv, ha⟩
      · exact nomatch ((if_neg e).symm.trans z)
    · by_cases e : c = a
      · exact ⟨e, hk⟩
      · exact absurd (if_neg e) z
  · obtain ⟨o, ho⟩ := Option.ne_none_iff_exists'.mp hk
    have e := KX a o ho
    rw [ha] at e
    cases e
    exact go (fun _ => none) (fun _ => .inl rfl) (.inr ⟨_, vs.toArray, _, ho, rfl, rfl, rfl, by rw [List.size_toArray, hi.length]; exact hl, by simpa using rv⟩) (fun c u z => nomatch z) fun c z => absurd rfl z
/-- a law, walked -/
theorem walkG {l : PySem.W.OpenLaw} {n k : Nat} {q : Program} {loose : List Str} {XP : (Str → Option Value) → Heap → Prop} {YP : World → Heap → Prop} {d : DefRec} {x : Str}
    (hn : l.most = some n) (hn2 : n ≤ sizeLine) (hdf : d.params.defaults = []) (hr : Room k callerA)
    (F : ∀ (w : World) (mg : Str → Option Value) (fa : Addr) (h : Heap), YP w h → h.Ns mainGlobals mg → mg d.name = some (.ref fa) →
      ∃ (K : PySem.W.Frag) (fd : FuncData) (fm : FM), K.In h ∧ (∀ (s : Shared) (u : Value), BindsTo s fd ⟨[u], []⟩ [(x, u)]) ∧
        (∀ ns : List Int, ns.length ≤ n → ∃ as', fm [.fr (.scr (ns.map .int))] = some (.ok (.fr (.bl true)) as')) ∧
        ∀ base : Heap, K.In base → base.Ns mainGlobals mg → FnG l.prog w K mg base (L2.CX l.prog w) k fa fd [x] (spM K 1 fm)) :
    PySem.W.WalkO q loose XP YP l.row.toRowW d [] (fun f vs => PySem.call f vs) :=
  Att.attach_call hn hdf fun w s₀ s₁ mg mb fa o pm cd doc a vs ns G Y ho hd hcd hmg hobj hints hlen hg => by
    obtain ⟨K, fd, fm, KX, hb, hsp, hF⟩ := F w mg fa _ Y G.T.g hmg
    exact lawG KX G.T.g G.T.b G.T.builtins G.T.nolimit hg hobj hints (Nat.le_trans hlen hn2) hr hF hb (hsp ns hlen)
end L3
end
section
namespace L3
open PySem PySem.Spec PyProof.Rows L2
/-! ### enumerate(tuple) -/
theorem enum_new {v : Value} {o : Obj} {G : Heap → Prop} (B : Begins v o G) :
    Meets (Builtin.«enumerate.__new__» ⟨[.type "enumerate", v], []⟩) (fun _ R s => G s.heap ∧
      R (.ok (.ret (.ref (s.heap.push o).objs.size))) { s with heap := (s.heap.push o).push { cls := .type "enumerate", data := .fields #[.none, .bool false, .ref s.heap.objs.size, rawInt 0, .none, .none] } }) :=
  .of_wp fun prog w A R s hh => by
    obtain ⟨hp, g, d, tk, os⟩ := s
    obtain ⟨h1, h⟩ := hh
    have hsub := sub_enumerate
    have beg : ∀ {A' : Around} {E : Value → Shared → Prop} {Q : Value → Shared → Prop}, Q (.ref hp.objs.size) ⟨hp.push o, g, d, tk, os⟩ → wpAny (model prog w) A' (pyIter v) Q E ⟨hp, g, d, tk, os⟩ := fun q => B.iter prog w _ _ ⟨hp, g, d, tk, os⟩ _ h1 q
    wp_walk using beg
    refine wpAny_stack_any fun st => wpAny_pure ?_
    split
    · rename_i c _ _ _ _ _
      cases (c == Value.type "enumerate") <;>
        · wp_walk using beg
          exact ⟨_, rfl, h⟩
    · wp_walk using beg
      exact ⟨_, rfl, h⟩
theorem enum_call {prog : Program} {w : World} {A : Around} {E : Value → Shared → Prop} {s : Shared} {v : Value} {o : Obj} {G : Heap → Prop} {Q : Value → Shared → Prop} (B : Begins v o G) (h1 : G s.heap)
    (h : ∀ h', IsEnum h' (s.heap.objs.size + 1) s.heap.objs.size 0 .none → h'.get? s.heap.objs.size = some o → (∀ b u, s.heap.get? b = some u → h'.get? b = some u) → Q (.ref (s.heap.objs.size + 1)) { s with heap := h' }) :
    wpAny (model prog w) A (call (.type "enumerate") [v]) Q E s := by
  refine callType_new F.called_enumerate (by decide) (F.typeCall_enumerate_1 _) (F.newCall_enumerate_1 _) (fun obj => F.args_object_init_2 obj _) F.entry_enumerate_new (enum_new B) ⟨h1, ?_⟩
  have z1 : (s.heap.push o).objs.size = s.heap.objs.size + 1 := Heap.size_push ..
  have z2 := Heap.get?_push_size (s.heap.push o) (o := { cls := .type "enumerate", data := .fields #[.none, .bool false, .ref s.heap.objs.size, rawInt 0, .none, .none] }) rfl
  rw [z1] at z2
  show _ ∧ _
  rw [z1]
  exact ⟨⟨_, z2, rfl⟩, h _ z2 (Heap.get?_push_of_some _ (Heap.get?_push_size _ B.free)) fun b u x => Heap.get?_push_of_some _ (Heap.get?_push_of_some _ x)⟩
def Iet (K : PySem.W.Frag) (a : Addr) : It where
  go := fun i H => ∃ (xs : List V) (x : V), SqT K H a xs ∧ xs[i]? = some x
  yld := fun i H v H' => ∃ T x, v = .ref T ∧ H T = none ∧ H' = upd H T (.tup [.int (i : Nat), x]) ∧ ∀ xs, SqT K H a xs → xs[i]? = some x
  stop := fun i H => ∃ xs : List V, SqT K H a xs ∧ xs.length = i
theorem iet_fp {a e it : Addr} {h : Heap} {old : Value} {i j : Nat} (he : IsEnum h e it ((i : Nat) : Int) old) (hi : h.IsTupleIter it a j) : e ≠ it := fun z => by
  subst z
  obtain ⟨o, ho, hc, _⟩ := hi
  rw [he] at ho
  cases ho
  exact absurd hc (by simp)
theorem turn_enumT {P : Program} {w : World} {K : PySem.W.Frag} {elts : List Expr} {kk : Nat} {tpos : Pos} (a e it : Addr) (hat : a ≠ it) :
    Turn P w K (.Tuple elts kk tpos) (Iet K a) [e, it] e (fun i h => (∃ old, IsEnum h e it ((i : Nat) : Int) old) ∧ h.IsTupleIter it a i ∧ e ≠ a) where
  mem := List.mem_cons_self
  obj := fun i h st b hb => by
    obtain ⟨⟨old, he⟩, ⟨o, ho, hc, hd⟩, _⟩ := st
    rcases List.mem_cons.mp hb with z | z
    · exact z ▸ ⟨_, he, fun v q => nomatch q⟩
    · rw [List.mem_singleton.mp z]
      exact ⟨o, ho, fun v q => by rw [hd] at q; cases q⟩
  keep := fun i h h' ⟨⟨old, he⟩, hi, ne⟩ k => ⟨⟨old, k e List.mem_cons_self _ he⟩, hi.at fun o q => k it (by simp) o q, ne⟩
  item := by
    intro X hP hw hK hc i pins s σ H E I hf st hg
    subst hP hw hK
    obtain ⟨⟨old, he⟩, hit, nea⟩ := st
    obtain ⟨xs, x, hq, hx⟩ := hg
    obtain ⟨its, rv, p, hz⟩ := I.tuple hq
    obtain ⟨u, hu, ru⟩ := rv.get hx
    have nei := iet_fp he hit
    have hel : e < s.heap.objs.size := Heap.lt_size he
    have hil : it < s.heap.objs.size := by
      obtain ⟨_, q, _⟩ := hit
      exact Heap.lt_size q
    have lt : i < its.toArray.size := by
      have := (List.getElem?_eq_some_iff.mp hu).1
      simpa using this
    refine wpAny_pyNext_enum_itemC (Draws.tuple (A := X.A.in1) (I.ok.hd hc) it a hat its.toArray) he ⟨hit, p⟩ lt nei (by simp [nei, nea]) fun y h' tk hy ho st' hT hsz hk => ?_
    have ey : y = u := by
      have hu' : its.toArray[i]? = some u := by simpa using hu
      rw [hu'] at hy
      exact (Option.some.inj hy).symm
    subst ey
    refine ⟨_, rfl, wpAny_letOwnedTupleGo_enum (s := { s with heap := h', toks := tk + 1 }) ho fun h'' he' sb => ?_⟩
    have hT2 := (sb.2 _ (Nat.ne_of_gt hel)).trans hT
    have new : ObjOk X.prog X.w (upd H s.heap.objs.size (.tup [.int (i : Nat), x])) h'' s.heap.objs.size (.tup [.int (i : Nat), x]) :=
      ⟨by show 2 ≤ sizeLine; decide, [.int i tk, y], .cons ⟨_, rfl⟩ (.cons ru .nil), ⟨_, hT2, rfl, _, rfl⟩⟩
    have I1 : Inv X pins σ (upd H s.heap.objs.size (.tup [.int (i : Nat), x])) { s with heap := h'', toks := tk + 1 } :=
      I.turnedNew (t' := tk + 1) (ch := [e, it]) (fun b ob hb q => (sb.2 b fun z => hb (z ▸ List.mem_cons_self)).trans (hk b ob (fun z => hb (z ▸ List.mem_cons_self)) (fun z => hb (by simp [z])) q)) hf (Nat.le_refl _) new
    refine ⟨.ref s.heap.objs.size, _, I1, rfl, ⟨_, x, rfl, I.hok.fresh (Nat.le_refl _), rfl, fun ys hy => ?_⟩, ⟨⟨y, ?_⟩, st'.1.at fun o q => (sb.2 it (Ne.symm nei)).trans q, nea⟩, fun b hb => ?_⟩
    · rw [I.tuple_inj hy hq]
      exact hx
    · have e1 : ((i + 1 : Nat) : Int) = (i : Int) + 1 := by omega
      rw [e1]
      exact he'
    · have hb' : b < s.heap.objs.size := by
        rcases List.mem_cons.mp hb with z | z
        · rw [z]; exact hel
        · rw [List.mem_singleton.mp z]; exact hil
      rw [upd_ne (Nat.ne_of_lt hb')]
      exact (hf b hb).1
  done := by
    intro X hP hw hK hc i pins s σ H E I hf st hg
    subst hP hw hK
    obtain ⟨⟨old, he⟩, hit, nea⟩ := st
    obtain ⟨xs, hq, hx⟩ := hg
    obtain ⟨its, rv, p, hz⟩ := I.tuple hq
    obtain ⟨f0, f1, f2, f3, f4, f5⟩ := hf it (by simp)
    have hn : i = its.toArray.size := by
      have := rv.length
      simp
      omega
    subst hn
    exact wpAny_pyNext_enum_endD (Draws.tuple (A := X.A.in1) (I.ok.hd hc) it a hat its.toArray) he ⟨hit, p⟩ fun h' eb => ⟨rfl, I.turned (t' := s.toks) (fun b o hb q => eb b o hb q) f0 f1 f3 f4 f5⟩
  self := fun A i s Q E ⟨⟨_, he⟩, _⟩ h => wpAny_pyIter_enum he h
/-- one value, a tuple -/
def iEnumT (K : PySem.W.Frag) (ta : TA) : TI := fun σ H R => ta σ H fun vs H1 => ∃ a xs, vs = [.ref a] ∧ SqT K H1 a xs ∧ R (Iet K a) H1
theorem pi_enumT {X : Cx} {e : Expr} {ta : TA} {p pos tpos : Pos} {elts : List Expr} {kk : Nat} (hg : Gl X "enumerate") (hm : X.mg "enumerate" = none) (ha : PA X [e] ta) (hs : starEach [e] X.env = [(false, eval e X.env)] := by rfl) :
    PI X (.Tuple elts kk tpos) (.Call (.Name "enumerate" p) [e] [] pos) (iEnumT X.K ta) := by
  refine ⟨fun pins s σ H R I h => ?_⟩
  refine Call_ (ld_blt I hg hm boot_enumerate (PyProof.Rows.callWith_type1 (thn (ha.run pos pins s σ H _ I h) fun us s1 ⟨vs, H1, I1, r1, a, xs, ex, hq, q⟩ => ?_) hs rfl))
  subst ex
  obtain ⟨u, eu, ru⟩ := vals1 r1
  subst eu
  obtain rfl : u = Value.ref a := ru
  obtain ⟨its, rv, p', hz⟩ := I1.tuple hq
  refine enum_call (begins_tuple a its.toArray) p' fun h' he hit hk => wpAny_pyIter_enum he ?_
  have lt : a < s1.heap.objs.size := by
    obtain ⟨o, ho, _⟩ := p'
    exact Heap.lt_size ho
  refine ⟨s1.heap.objs.size + 1, [s1.heap.objs.size + 1, s1.heap.objs.size], _, _, H1, rfl, I1.kept (t' := s1.toks) hk, turn_enumT a (s1.heap.objs.size + 1) s1.heap.objs.size (Nat.ne_of_lt lt), ⟨⟨.none, he⟩, ⟨_, hit, rfl, rfl⟩, Nat.ne_of_gt (Nat.lt_succ_of_lt lt)⟩, fun b hb => ?_, q⟩
  have hle : s1.heap.objs.size ≤ b := by
    rcases List.mem_cons.mp hb with z | z
    · rw [z]; exact Nat.le_succ _
    · rw [List.mem_singleton.mp z]; exact Nat.le_refl _
  exact I1.fpOk hle (I1.hok.fresh hle)

/-! ### by slots -/
def enums : Nat → List D → List D
  | _, [] => []
  | i, d :: r => .tup [.int i, d] :: enums (i + 1) r
theorem enums_at : ∀ {l : List D} {i k : Nat} {d : D}, (enums k l)[i]? = some d → ∃ x, l[i]? = some x ∧ d = .tup [.int (k + i : Nat), x]
  | [], _, _, _, e => by simp [enums] at e
  | x :: l, 0, k, d, e => by simp [enums] at e; exact ⟨x, rfl, e.symm⟩
  | x :: l, i + 1, k, d, e => by
    obtain ⟨y, h1, h2⟩ := enums_at (l := l) (i := i) (k := k + 1) (by simpa [enums] using e)
    refine ⟨y, by simpa using h1, ?_⟩
    rw [h2]
    congr 4
    omega
theorem enums_len : ∀ {l : List D} {k : Nat}, (enums k l).length = l.length
  | [], _ => rfl
  | _ :: l, k => congrArg (· + 1) (enums_len (l := l) (k := k + 1))
section
variable {X : Cx} {ρ : Nat → Addr} {W : WX} {K : PySem.W.Frag} {e1 : Expr} {mA : M D} {pos p tpos : Pos} {elts : List Expr} {kk : Nat}
theorem itok_enumT {F : Hp} {a : Addr} {vs : List V} {l : List D} (h : SqT K F a vs) (r : RepL K F vs l) : ItOk K (Iet K a) F (enums 0 l) :=
  ⟨fun H i s hi => by
      rw [enums_len] at hi
      obtain ⟨v, e, _⟩ := r.get (i := i) (d := l[i]) (by simp [hi])
      exact ⟨vs, v, sqT_mono s h, e⟩, fun H s => ⟨vs, sqT_mono s h, by rw [r.length, enums_len]⟩, fun H i x H' d s y e => by
      obtain ⟨z, hz, ed⟩ := enums_at e
      obtain ⟨v, e1, rd⟩ := r.get hz
      obtain ⟨T, w, ex, hT, eH, hx⟩ := y
      have := hx vs (sqT_mono s h)
      rw [e1] at this
      cases this
      subst ed
      exact .inr ⟨T, _, _, hT, ex, eH, rfl, .cons (by have := RepD.int (K := K) (F := F) (i : Nat); simpa using this) (.cons rd .nil)⟩⟩
def enumD : D → Option (List D)
  | .tup l => some (enums 0 l)
  | _ => none
theorem vi_enumT (hg : Gl X "enumerate") (hm : X.mg "enumerate" = none) (ha : VD X ρ W e1 mA) (hs : starEach [e1] X.env = [(false, eval e1 X.env)] := by rfl) : VI X ρ W (.Tuple elts kk tpos) (.Call (.Name "enumerate" p) [e1] [] pos) (m1 enumD mA) :=
  PI.imp (pi_enumT hg hm (pa_cons ha pa_nil hs) hs) fun σ H R ⟨F, a, os, o, Rp, e, q⟩ => by
    refine tD.bind Rp e (fun x a' z => by subst z; exact q) fun d a1 F1 v H1 o1 e1 r1 R1 f1 => ?_
    cases r1 with
    | tup h r =>
      cases e1
      exact ⟨_, _, rfl, sqT_mono R1.sub h, q F1 H1 o1 _ R1 f1 (itok_enumT h r)⟩
    | _ => cases e1
end
end L3
end
section
namespace L3
open PySem PySem.Spec PyProof.Rows L2
/-- the j-th statement of a class -/
def inC (s : Stmt) (j : Nat) : Stmt := match s with
  | .ClassDef _ _ _ body _ _ _ _ _ _ _ => body.getD j (.Pass ⟨0, 0, 0, 0⟩)
  | _ => .Pass ⟨0, 0, 0, 0⟩
def selRest (n j : Nat) : Sel [] n j n := ⟨fun l => ([], l), fun l => ([], l), fun l => ([], l), fun _ _ => rfl, fun r => ⟨.nil, r⟩, fun r => ⟨.nil, r⟩⟩
def selAll (ks : List Str) (n : Nat) : Sel ks n ks.length (n + ks.length) := ⟨fun l => (l, []), fun l => (l, []), fun l => (l, []), fun _ h => congrArg (n + ·) h, fun r => ⟨r, .nil⟩, fun r => ⟨r, .nil⟩⟩
theorem disp_one {C : Addr} {m : FM} {R : Addr → FM → Prop} (h : R C m) : ∀ C' m', disp1 C m C' = some m' → R C' m' := fun C' m' e => by
  obtain ⟨rfl, rfl⟩ := disp1_at e
  exact h
theorem cs_one {C : Addr} {R : Addr → Prop} (h : R C) : ∀ C', (C' == C) = true → R C' := fun C' e => by
  obtain rfl := beq_iff_eq.mp e
  exact h
def sub1 (C : Addr) : Addr → Option Bool := fun c => if c = C then some true else none
theorem sub_one {C : Addr} {R : Addr → Prop} {K : PySem.W.Frag} (h : R C ∧ PySem.W.kitOne K (.ref C) (.ref C) = some true) : ∀ C' b, sub1 C C' = some b → R C' ∧ PySem.W.kitOne K (.ref C') (.ref C) = some b := fun C' b e => by
  unfold sub1 at e
  split at e
  · rename_i e2
    cases e
    subst e2
    exact h
  · cases e
section
variable {P : Program} {w : World} {K : PySem.W.Frag} {mg : Str → Option Value} {base : Heap} {k n : Nat} {f : Addr} {fd : FuncData} {ps ks : List Str} {fm : FM} {m : Nat → FM} {x qual : Str} {params : Arguments} {body : List Stmt} {scope : Scope}
/-- as many values as are handed in -/
def anyM (n : Nat) (m : Nat → FM) : FM := fun as => if n ≤ as.length then m (as.length - n) as else none
theorem fnc_any (h : ∀ j, FnC P w K mg base k f [] (m j)) : FnC P w K mg base k f [] (anyM n m) := by
  intro A outer s H us ws vs zs Q E hg hr e0 r rz hz hsp
  obtain ⟨F, as, os, o, hl, R, e, q⟩ := hsp
  unfold anyM at e
  split at e
  · exact h (as.length - n) A outer s H us ws vs zs Q E hg hr e0 r rz hz ⟨F, as, os, o, hl, R, e, q⟩
  · cases e
/-- values by their places -/
def pick {α : Type} (is : List Nat) (l : List α) : List α := is.filterMap (l[·]?)
theorem pick_vals : ∀ {is : List Nat} {vs : List V} {us : List Value}, Vals vs us → Vals (pick is vs) (pick is us)
  | [], _, _, _ => .nil
  | i :: is, vs, us, r => by
    have ih := pick_vals (is := is) r
    unfold pick at ih ⊢
    cases e : vs[i]? with
    | none =>
      have e2 : us[i]? = none := List.getElem?_eq_none (by rw [← r.length]; exact List.getElem?_eq_none_iff.mp e)
      rw [List.filterMap_cons_none e, List.filterMap_cons_none e2]
      exact ih
    | some v =>
      obtain ⟨u, e2, rv⟩ := r.get e
      rw [List.filterMap_cons_some e, List.filterMap_cons_some e2]
      exact .cons rv ih
theorem pick_rep {F : Hp} : ∀ {is : List Nat} {vs : List V} {ds : List D}, RepL K F vs ds → RepL K F (pick is vs) (pick is ds)
  | [], _, _, _ => .nil
  | i :: is, vs, ds, r => by
    have ih := pick_rep (is := is) r
    unfold pick at ih ⊢
    cases e : vs[i]? with
    | none =>
      have e2 : ds[i]? = none := List.getElem?_eq_none (by rw [← r.length]; exact List.getElem?_eq_none_iff.mp e)
      rw [List.filterMap_cons_none e, List.filterMap_cons_none e2]
      exact ih
    | some v =>
      obtain ⟨d, e2, rv⟩ := r.getV e
      rw [List.filterMap_cons_some e, List.filterMap_cons_some e2]
      exact .cons rv ih
/-- n values, then ks by name; is: the places of these in the parameters' turn -/
def kwM (n j : Nat) (is : List Nat) (fm : FM) : FM := argM n j (fun ds => some (pick is ds)) fm
theorem fnc_pick (G : FnG P w K mg base (L2.CX P w) k f fd ps (spM K ps.length fm)) (F : FunD K x qual params body scope [] [] f fd) (is : List Nat)
    (hb : ∀ (kV doc pm : Value) (an : Option Addr) (cdv ct : Value) (us ws : List Value), us.length = n → ws.length = ks.length → bindArgs (PySem.W.fnOf x qual params body scope .none kV doc pm an cdv ct) ⟨us, ks.zip ws⟩ = pure (ps.zip (us ++ pick is ws)))
    (hl : ∀ zs : List V, zs.length = ks.length → n + (pick is zs).length = ps.length) : FnC P w K mg base k f ks (kwM n ks.length is fm) := by
  obtain ⟨oc, od, dV, kV, doc, pm, an, cdv, ct, osl, rfl, lk, hcd, hD, hK⟩ := F.ex
  rcases hD with ⟨_, rfl⟩ | ⟨e, _⟩
  · exact fnc_kw (gW := pick is) (gV := pick is) (π := pick is) G ⟨fun s us ws _ h1 h2 => .of_eq (hb kV doc pm an cdv ct us ws h1 h2), fun r rz => r.append (pick_vals rz)⟩ hl fun F zs ds r => pick_rep r
  · exact absurd rfl e
end
end L3
end
section
namespace L3
open PySem PySem.Spec PyProof.Rows L2
/-! ### the plain side: a computation comes to its end, and what then holds -/
def Post {α : Type} (m : M α) (a : AS) (Q : α → AS → Prop) : Prop := ∃ r a', m a = some (.ok r a') ∧ Q r a'
section
variable {α β : Type} {m : M α} {f : α → M β} {a a' : AS} {Q Q' : α → AS → Prop} {R : β → AS → Prop} {d : D} {i : Nat} {s : Sl}
theorem Post.imp (h : Post m a Q) (i : ∀ r a', Q r a' → Q' r a') : Post m a Q' := by
  obtain ⟨r, a', e, q⟩ := h
  exact ⟨r, a', e, i r a' q⟩
theorem p_bnd : Post (bnd m f) a R = Post m a (fun r a1 => Post (f r) a1 R) := by
  apply propext
  unfold Post bnd
  constructor
  · rintro ⟨r, a', e, q⟩
    cases z : m a with
    | none => rw [z] at e; cases e
    | some o =>
      rw [z] at e
      cases o with
      | ok r1 a1 => exact ⟨r1, a1, rfl, r, a', e, q⟩
      | ex x a1 => cases e
  · rintro ⟨r1, a1, e1, r, a', e, q⟩
    exact ⟨r, a', by rw [e1]; exact e, q⟩
theorem p_ret {r : α} : Post (ret r) a Q = Q r a := propext ⟨fun ⟨_, _, e, q⟩ => by cases e; exact q, fun q => ⟨r, a, rfl, q⟩⟩
theorem p_none : Post (fun _ => none : M α) a Q = False := propext ⟨fun ⟨_, _, e, _⟩ => (by cases e), False.elim⟩
theorem p_lift {o : Option α} : Post (lift o) a Q = (∃ r, o = some r ∧ Q r a) := propext ⟨fun ⟨r, a', e, q⟩ => by
  cases o with
  | none => cases e
  | some r => cases e; exact ⟨_, rfl, q⟩, fun ⟨r, e, q⟩ => ⟨r, a, by rw [e]; rfl, q⟩⟩
theorem p_some {r : α} : (∃ r', some r = some r' ∧ Q r' a) = Q r a := propext ⟨fun ⟨_, e, q⟩ => by cases e; exact q, fun q => ⟨r, rfl, q⟩⟩
theorem p_somen : (∃ r', (none : Option α) = some r' ∧ Q r' a) = False := propext ⟨fun ⟨_, e, q⟩ => (by cases e), False.elim⟩
theorem p_ite {c : Prop} [Decidable c] {r : α} : (∃ r', (if c then some r else none) = some r' ∧ Q r' a) = (c ∧ Q r a) := by
  apply propext
  by_cases h : c
  · simp [h]
  · simp [h]
theorem p_if {c : Prop} [Decidable c] {m1 m2 : M α} : Post (if c then m1 else m2) a Q = (if c then Post m1 a Q else Post m2 a Q) := by split <;> rfl
theorem ok_ex {r : α} : (∃ r' a', (some (Er.ok r a) : Option (Er α)) = some (.ok r' a') ∧ Q r' a') = Q r a := propext ⟨fun ⟨_, _, e, q⟩ => (by cases e; exact q), fun q => ⟨r, a, rfl, q⟩⟩
theorem no_ex : (∃ r' a', (none : Option (Er α)) = some (.ok r' a') ∧ Q r' a') = False := propext ⟨fun ⟨_, _, e, _⟩ => (by cases e), False.elim⟩
theorem if_ex {c : Prop} [Decidable c] {r : α} : (∃ r' a', (if c then some (Er.ok r a) else none : Option (Er α)) = some (.ok r' a') ∧ Q r' a') = (c ∧ Q r a) := by
  by_cases h : c
  · simp only [h, if_true, ok_ex, true_and]
  · simp only [h, if_false, no_ex, false_and]
theorem p_frz {ms : M Sl} {Q : D → AS → Prop} : Post (mFrz ms) a Q = Post ms a (fun s a1 => ∃ d, frzS s = some d ∧ Q d a1) := by unfold mFrz; rw [p_bnd]; simp only [p_lift]
theorem p_fr {ms : M D} {Q : Sl → AS → Prop} : Post (mFr ms) a Q = Post ms a (fun d a1 => Q (.fr d) a1) := by unfold mFr; rw [p_bnd]; simp only [p_ret]
theorem p_var {Q : D → AS → Prop} : Post (mVar i) a Q = (match a[i]? with
  | some (.fr d) => Q d a
  | some (.ow none o) => Q (frzOb o) (a.set i (.fr (frzOb o)))
  | _ => False) := by
  unfold Post mVar
  cases a[i]? with
  | none => simp only [no_ex]
  | some s => rcases s with _ | d | ⟨_ | t, o⟩ <;> simp only [no_ex, ok_ex]
theorem p_view {Q : D → AS → Prop} : Post (mView i) a Q = (match a[i]? with
  | some s => (match view s with
    | some d => Q d a
    | none => False)
  | none => False) := by
  unfold Post mView
  cases a[i]? with
  | none => simp only [no_ex]
  | some s =>
    dsimp only
    cases view s <;> simp only [no_ex, ok_ex]
theorem p_m1 {g : D → Option α} {mA : M D} : Post (m1 g mA) a Q = Post mA a (fun d a1 => ∃ r, g d = some r ∧ Q r a1) := by unfold m1; rw [p_bnd]; simp only [p_lift]
theorem p_m2 {g : D → D → Option α} {mA mB : M D} : Post (m2 g mA mB) a Q = Post mA a (fun x a1 => Post mB a1 (fun y a2 => ∃ r, g x y = some r ∧ Q r a2)) := by unfold m2; simp only [p_bnd, p_lift]
theorem p_mV2 {g : D → D → Option α} {mB : M D} : Post (mV2 g i mB) a Q = Post (mView i) a (fun _ a1 => Post mB a1 (fun y a2 => Post (mView i) a2 (fun x a3 => ∃ r, g x y = some r ∧ Q r a3))) := by unfold mV2; simp only [p_bnd, p_lift]
theorem p_m2V {g : D → D → Option α} {mB : M D} : Post (m2V g mB i) a Q = Post mB a (fun x a1 => Post (mView i) a1 (fun y a2 => ∃ r, g x y = some r ∧ Q r a2)) := by unfold m2V; simp only [p_bnd, p_lift]
theorem p_and {t u : M Bool} {Q : Bool → AS → Prop} : Post (mAnd t u) a Q = Post t a (fun c a1 => if c = true then Post u a1 Q else Q false a1) := by unfold mAnd; simp only [p_bnd, p_if, p_ret]
theorem p_or {t u : M Bool} {Q : Bool → AS → Prop} : Post (mOr t u) a Q = Post t a (fun c a1 => if c = true then Q true a1 else Post u a1 Q) := by unfold mOr; simp only [p_bnd, p_if, p_ret]
theorem p_not {t : M Bool} {Q : Bool → AS → Prop} : Post (mNot t) a Q = Post t a (fun c a1 => Q (!c) a1) := by unfold mNot; simp only [p_bnd, p_ret]
theorem p_tst {t : M D} {Q : Bool → AS → Prop} : Post (mTst t) a Q = Post t a (fun d a1 => ∃ b, blD d = some b ∧ Q b a1) := p_m1
theorem p_andV {t u : M D} {Q : D → AS → Prop} : Post (mAndV t u) a Q = Post t a (fun x a1 => match x with
  | .bl true => Post u a1 Q
  | .bl false => Q (.bl false) a1
  | _ => False) := by
  unfold mAndV
  rw [p_bnd]
  congr
  funext x a1
  split <;> simp only [p_ret, p_none]
theorem p_orV {t u : M D} {Q : D → AS → Prop} : Post (mOrV t u) a Q = Post t a (fun x a1 => match x with
  | .bl true => Q (.bl true) a1
  | .bl false => Post u a1 Q
  | _ => False) := by
  unfold mOrV
  rw [p_bnd]
  congr
  funext x a1
  split <;> simp only [p_ret, p_none]
theorem p_ifE {t : M Bool} {u v : M α} : Post (mIfE t u v) a Q = Post t a (fun c a1 => if c = true then Post u a1 Q else Post v a1 Q) := by unfold mIfE; simp only [p_bnd, p_if]
theorem p_ch {no : α} {f : D → D → Option Bool} {g : D → D → Option α} {ma mb mc : M D} : Post (mCh no f g ma mb mc) a Q = Post ma a (fun x a1 => Post mb a1 (fun y a2 => ∃ k, f x y = some k ∧ if k = true then Post mc a2 (fun z a3 => ∃ r, g y z = some r ∧ Q r a3) else Q no a2)) := by
  unfold mCh
  simp only [p_bnd, p_lift, p_if, p_ret]
theorem p_bl {t : M Bool} {Q : D → AS → Prop} : Post (mBl t) a Q = Post t a (fun c a1 => Q (.bl c) a1) := by unfold mBl; simp only [p_bnd, p_ret]
theorem p_nil {Q : List D → AS → Prop} : Post mNil a Q = Q [] a := p_ret
theorem p_cons {t : M D} {r : M (List D)} {Q : List D → AS → Prop} : Post (mCons t r) a Q = Post t a (fun x a1 => Post r a1 (fun l a2 => Q (x :: l) a2)) := by unfold mCons; simp only [p_bnd, p_ret]
theorem p_tup {r : M (List D)} {Q : D → AS → Prop} : Post (mTup r) a Q = Post r a (fun l a1 => l.length ≤ sizeLine ∧ Q (.tup l) a1) := by unfold mTup; simp only [p_bnd, p_lift, p_ite]
theorem p_lst {r : M (List D)} {Q : Sl → AS → Prop} : Post (mLst r) a Q = Post r a (fun l a1 => l.length ≤ sizeLine ∧ Q (.ow none (.lst l)) a1) := by unfold mLst; simp only [p_bnd, p_lift, p_ite]
theorem p_part {t : M D} {Q : Option Int → AS → Prop} : Post (mPart t) a Q = Post t a (fun d a1 => match d with
  | .int i => Q (some i) a1
  | _ => False) := by
  unfold mPart
  rw [p_m1]
  congr
  funext d a1
  cases d <;> simp only [p_some, p_somen]
theorem p_sl {t : M D} {l h : M (Option Int)} {Q : Sl → AS → Prop} : Post (mSl t l h) a Q = Post t a (fun x a1 => Post l a1 (fun i a2 => Post h a2 (fun j a3 => ∃ r, sliceD x i j = some r ∧ Q r a3))) := by unfold mSl; simp only [p_bnd, p_lift]
theorem p_slV {k : Nat} {l h : M (Option Int)} {Q : Sl → AS → Prop} : Post (mSlV k l h) a Q = Post (mView k) a (fun _ a1 => Post l a1 (fun i a2 => Post h a2 (fun j a3 => Post (mView k) a3 (fun x a4 => ∃ r, sliceD x i j = some r ∧ Q r a4)))) := by unfold mSlV; simp only [p_bnd, p_lift]
theorem p_cal {g : List D → Option Sl} {r : M (List D)} {Q : Sl → AS → Prop} : Post (mCal g r) a Q = Post r a (fun l a1 => ∃ s, g l = some s ∧ Q s a1) := by unfold mCal; simp only [p_bnd, p_lift]
theorem p_lenV {Q : Sl → AS → Prop} : Post (mLenV i) a Q = Post (mView i) a (fun x a1 => ∃ s, fnLen [x] = some s ∧ Q s a1) := by unfold mLenV; simp only [p_bnd, p_lift]
theorem p_is {g : D → Option Bool} {t : M D} {Q : D → AS → Prop} : Post (mIs g t) a Q = Post t a (fun d a1 => ∃ b, g d = some b ∧ Q (.bl b) a1) := by
  unfold mIs
  rw [p_m1]
  congr
  funext d a1
  cases g d <;> simp
theorem p_isO {g : Addr → Option Bool} {t : M D} {Q : D → AS → Prop} : Post (mIsO g t) a Q = Post t a (fun d a1 => ∃ b, isOwn g d = some b ∧ Q (.bl b) a1) := by
  unfold mIsO
  rw [p_m1]
  congr
  funext d a1
  cases isOwn g d <;> simp
theorem p_put {Q : Out → AS → Prop} : Post (mPut i s) a Q = (i < a.length ∧ Q .nx (a.set i s)) := by
  apply propext
  unfold Post mPut
  by_cases h : i < a.length
  · simp only [h, if_true, ok_ex, true_and]
  · simp only [h, if_false, no_ex, false_and]
theorem p_set {ms : M Sl} {Q : Out → AS → Prop} : Post (mSet i ms) a Q = Post ms a (fun s a1 => i < a1.length ∧ Q .nx (a1.set i s)) := by unfold mSet; simp only [p_bnd, p_put]
theorem p_drop {ms : M Sl} {Q : Out → AS → Prop} : Post (mDrop ms) a Q = Post ms a (fun _ a1 => Q .nx a1) := by unfold mDrop; simp only [p_bnd, p_ret]
theorem p_rt {ms : M Sl} {Q : Out → AS → Prop} : Post (mRet ms) a Q = Post ms a (fun s a1 => Q (.rt s) a1) := by unfold mRet; simp only [p_bnd, p_ret]
theorem p_move {Q : Sl → AS → Prop} : Post (mMove i) a Q = (match a[i]? with
  | some (.fr d) => Q (.fr d) a
  | some (.ow none o) => Q (.ow none o) (a.set i .un)
  | _ => False) := by
  unfold Post mMove
  cases a[i]? with
  | none => simp only [no_ex]
  | some s => rcases s with _ | d | ⟨_ | t, o⟩ <;> simp only [no_ex, ok_ex]
theorem p_seq {m1 m2 : M Out} {Q : Out → AS → Prop} : Post (mSeq m1 m2) a Q = Post m1 a (fun o a1 => match o with
  | .nx => Post m2 a1 Q
  | o => Q o a1) := by
  apply propext
  unfold Post mSeq
  constructor
  · rintro ⟨r, a', e, q⟩
    cases z : m1 a with
    | none => rw [z] at e; cases e
    | some o =>
      rw [z] at e
      cases o with
      | ex x a1 => cases e
      | ok r1 a1 =>
        cases r1 with
        | nx => exact ⟨.nx, a1, rfl, r, a', e, q⟩
        | bk => cases e; exact ⟨_, _, rfl, q⟩
        | ct => cases e; exact ⟨_, _, rfl, q⟩
        | rt s => cases e; exact ⟨_, _, rfl, q⟩
  · rintro ⟨r1, a1, e1, q⟩
    cases r1 with
    | nx =>
      obtain ⟨r, a', e, q⟩ := q
      exact ⟨r, a', by rw [e1]; exact e, q⟩
    | bk => exact ⟨_, _, by rw [e1], q⟩
    | ct => exact ⟨_, _, by rw [e1], q⟩
    | rt s => exact ⟨_, _, by rw [e1], q⟩
theorem p_mif {t : M Bool} {m1 m2 : M Out} {Q : Out → AS → Prop} : Post (mIf t m1 m2) a Q = Post t a (fun c a1 => if c = true then Post m1 a1 Q else Post m2 a1 Q) := by unfold mIf; simp only [p_bnd, p_if]
theorem p_asg {g : MG} {t : M D} {Q : Out → AS → Prop} : Post (mAsg g t) a Q = Post t a (fun d a1 => ∃ a2, g d a1 = some a2 ∧ Q .nx a2) := by
  unfold mAsg
  rw [p_bnd]
  congr
  funext d a1
  apply propext
  unfold Post
  dsimp only
  constructor
  · rintro ⟨r, a', e, q⟩
    cases z : g d a1 with
    | none => rw [z] at e; cases e
    | some a2 => rw [z] at e; cases e; exact ⟨_, rfl, q⟩
  · rintro ⟨a2, e, q⟩
    exact ⟨.nx, a2, by rw [e], q⟩
theorem p_app {t : M D} {Q : Sl → AS → Prop} : Post (mApp i t) a Q = Post (mView i) a (fun v a1 => match v with
  | .lst _ => Post t a1 (fun d a2 => match a2[i]? with
    | some (.ow tg (.lst l)) => l.length < sizeLine ∧ Q (.fr .non) (a2.set i (.ow tg (.lst (l ++ [d]))))
    | _ => False)
  | _ => False) := by
  unfold mApp
  rw [p_bnd]
  congr
  funext v a1
  cases v <;> simp only [p_none]
  rw [p_bnd]
  congr
  funext d a2
  unfold Post
  dsimp only
  cases a2[i]? with
  | none => simp only [no_ex]
  | some s => rcases s with _ | d | ⟨t, l | ⟨C, fs⟩⟩ <;> simp only [no_ex, if_ex]
theorem p_setI {k : Nat} {mi t : M D} {Q : Out → AS → Prop} : Post (mSetI k mi t) a Q = Post t a (fun d a1 => Post (mView k) a1 (fun _ a2 => Post mi a2 (fun j a3 => match a3[k]?, j with
  | some (.ow tg (.lst l)), .int z => ∃ n, ixN l.length z = some n ∧ Q .nx (a3.set k (.ow tg (.lst (l.set n d))))
  | _, _ => False))) := by
  unfold mSetI
  simp only [p_bnd]
  congr
  funext d a1
  congr
  funext v a2
  congr
  funext j a3
  unfold Post
  dsimp only
  cases a3[k]? with
  | none => simp only [no_ex]
  | some s =>
    rcases s with _ | d | ⟨t, l | ⟨C, fs⟩⟩ <;> cases j <;> simp only [no_ex]
    rename_i z
    cases ixN l.length z with
    | none => simp only [no_ex, reduceCtorEq, false_and, exists_false]
    | some n => simp only [ok_ex]; simp only [Option.some.injEq, exists_eq_left']
theorem p_items {t : M D} {Q : List D → AS → Prop} : Post (mItems t) a Q = Post t a (fun d a1 => ∃ l, itemsD d = some l ∧ Q l a1) := p_m1
theorem p_for {mi : M (List D)} {g : MG} {b : M Out} {Q : Out → AS → Prop} : Post (mFor mi g b) a Q = Post mi a (fun l a1 => Post (forM g b l) a1 Q) := by unfold mFor; rw [p_bnd]
/-- a walk that is gone through; what holds behind i turns -/
theorem p_forM {g : MG} {b : M Out} {l : List D} {Q : Out → AS → Prop} (I : Nat → AS → Prop) (h0 : I 0 a)
    (hs : ∀ i d a, l[i]? = some d → I i a → ∃ a1, g d a = some a1 ∧ Post b a1 (fun o a2 => (o = .nx ∨ o = .ct) ∧ I (i + 1) a2)) (hd : ∀ a, I l.length a → Q .nx a) : Post (forM g b l) a Q := by
  have key : ∀ (l' : List D) (k : Nat) (a : AS), (∀ j, l'[j]? = l[k + j]?) → k + l'.length = l.length → I k a → Post (forM g b l') a Q := by
    intro l'
    induction l' with
    | nil =>
      intro k a _ hl hk
      refine ⟨.nx, a, rfl, hd a ?_⟩
      have : k = l.length := by simpa using hl
      rw [← this]; exact hk
    | cons d ds ih =>
      intro k a hj hl hk
      have h0 : l[k]? = some d := by have := hj 0; simpa using this.symm
      obtain ⟨a1, e1, o, a2, e2, ho, h2⟩ := hs k d a h0 hk
      obtain ⟨r, a3, e3, q⟩ := ih (k + 1) a2 (fun j => by
        have := hj (j + 1)
        simp only [List.getElem?_cons_succ] at this
        rw [this]; congr 1; omega) (by simp at hl; omega) h2
      refine ⟨r, a3, ?_, q⟩
      rcases ho with rfl | rfl <;> simp only [forM, e1, e2, e3]
  exact key l 0 a (fun j => by simp) (by simp) h0
theorem p_lc {mi : M (List D)} {t : M Bool} {mm : M D} {Q : Sl → AS → Prop} : Post (mLc mi i t mm) a Q = Post mi a (fun l a1 => (calmS a1[i]? = true ∧ l.length ≤ sizeLine) ∧ ∃ acc a2 s, lcM i t mm l [] (a1.set i .un) = some (acc, a2) ∧ a1[i]? = some s ∧ Q (.ow none (.lst acc)) (a2.set i s)) := by
  unfold mLc
  rw [p_bnd]
  congr
  funext l a1
  apply propext
  unfold Post
  dsimp only
  constructor
  · rintro ⟨r, a', e, q⟩
    split at e
    · rename_i hh
      refine ⟨hh, ?_⟩
      split at e
      · rename_i acc a2 z
        split at e
        · rename_i s hs
          cases e
          exact ⟨acc, a2, s, z, hs, q⟩
        · cases e
      · cases e
    · cases e
  · rintro ⟨hh, acc, a2, s, z, hs, q⟩
    exact ⟨_, _, by rw [if_pos hh, z]; simp only [hs], q⟩
/-- a comprehension gone through: all items -/
theorem p_lcM {t : M Bool} {mm : M D} {l : List D} (I : Nat → List D → AS → Prop) (h0 : I 0 [] a)
    (hs : ∀ k d acc a, l[k]? = some d → I k acc a → Post t (a.set i (.fr d)) (fun c a1 => if c = true then Post mm a1 (fun y a2 => I (k + 1) (acc ++ [y]) (a2.set i .un)) else I (k + 1) acc (a1.set i .un))) : ∃ acc a', lcM i t mm l [] a = some (acc, a') ∧ I l.length acc a' := by
  have key : ∀ (l' : List D) (k : Nat) (acc : List D) (a : AS), (∀ j, l'[j]? = l[k + j]?) → k + l'.length = l.length → I k acc a → ∃ acc' a', lcM i t mm l' acc a = some (acc', a') ∧ I l.length acc' a' := by
    intro l'
    induction l' with
    | nil =>
      intro k acc a _ hl hk
      have : k = l.length := by simpa using hl
      exact ⟨acc, a, rfl, by rw [← this]; exact hk⟩
    | cons d ds ih =>
      intro k acc a hj hl hk
      have h0 : l[k]? = some d := by have := hj 0; simpa using this.symm
      have hj' : ∀ j, ds[j]? = l[k + 1 + j]? := fun j => by
        have := hj (j + 1)
        simp only [List.getElem?_cons_succ] at this
        rw [this]; congr 1; omega
      have hl' : k + 1 + ds.length = l.length := by simp at hl; omega
      obtain ⟨c, a1, e1, h1⟩ := hs k d acc a h0 hk
      cases c with
      | true =>
        obtain ⟨y, a2, e2, h2⟩ := (show Post mm a1 _ from by simpa using h1)
        obtain ⟨acc', a', e3, q⟩ := ih (k + 1) _ _ hj' hl' h2
        exact ⟨acc', a', by simp only [lcM, e1, e2]; exact e3, q⟩
      | false =>
        obtain ⟨acc', a', e3, q⟩ := ih (k + 1) _ _ hj' hl' (by simpa using h1)
        exact ⟨acc', a', by simp only [lcM, e1]; exact e3, q⟩
  exact key l 0 [] a (fun j => by simp) (by simp) h0
/-! ### calls -/
theorem p_gNil {Q : List Ag → AS → Prop} : Post gNil a Q = Q [] a := p_ret
theorem p_gV {t : M D} {r : M (List Ag)} {Q : List Ag → AS → Prop} : Post (gV t r) a Q = Post t a (fun x a1 => Post r a1 (fun l a2 => Q (.v x :: l) a2)) := by unfold gV; simp only [p_bnd, p_ret]
theorem p_gB {r : M (List Ag)} {Q : List Ag → AS → Prop} : Post (gB i r) a Q = (match a[i]? with
  | some .un => False
  | none => False
  | _ => Post r a (fun l a2 => Q (.b i :: l) a2)) := by
  have key : Post (bnd r fun gs => ret (.b i :: gs)) a Q = Post r a (fun l a2 => Q (.b i :: l) a2) := by rw [p_bnd]; simp only [p_ret]
  rw [← key]
  unfold gB Post
  dsimp only
  cases a[i]? with
  | none => simp only [no_ex]
  | some s => cases s <;> simp only [no_ex]
/-- a def comes to its end -/
def PostF (f : FM) (as : List Sl) (Q : Sl → List Sl → Prop) : Prop := ∃ r as', f as = some (.ok r as') ∧ Q r as'
theorem PostF.imp {f : FM} {as : List Sl} {Q Q' : Sl → List Sl → Prop} (h : PostF f as Q) (i : ∀ r a', Q r a' → Q' r a') : PostF f as Q' := by
  obtain ⟨r, a', e, q⟩ := h
  exact ⟨r, a', e, i r a' q⟩
theorem p_fn {n : Nat} {b : M Out} {as : List Sl} {Q : Sl → List Sl → Prop} : PostF (fnM n b) as Q = Post b (as ++ List.replicate n .un) (fun o a' => match o with
  | .rt r => Q r (outs as a')
  | .nx => Q (.fr .non) (outs as a')
  | _ => False) := by
  apply propext
  unfold PostF Post fnM
  constructor
  · rintro ⟨r, a', e, q⟩
    split at e
    · rename_i r1 a1 z
      cases e
      exact ⟨_, _, z, q⟩
    · rename_i a1 z
      cases e
      exact ⟨_, _, z, q⟩
    · cases e
    · cases e
  · rintro ⟨o, a', e, q⟩
    cases o with
    | nx => exact ⟨_, _, by rw [e], q⟩
    | rt r => exact ⟨_, _, by rw [e], q⟩
    | bk => exact q.elim
    | ct => exact q.elim
theorem p_cl {f : FM} {mg : M (List Ag)} {dds : List D} {Q : Sl → AS → Prop} : Post (mCl f mg dds) a Q = Post mg a (fun gs a1 => match toSl 0 gs a1 with
  | none => False
  | some (as, a2) => PostF f (as ++ dds.map .fr) (fun r as' => match backSl a1 gs as' a2 with
    | some a3 => Q (retag none r) a3
    | none => False)) := by
  unfold mCl
  rw [p_bnd]
  congr
  funext gs a1
  apply propext
  unfold Post PostF
  dsimp only
  constructor
  · rintro ⟨r, a', e, q⟩
    split at e
    · cases e
    · rename_i as a2 z
      try simp only [z]
      split at e
      · cases e
      · rename_i r1 as' zf
        split at e
        · rename_i a3 zb
          cases e
          exact ⟨r1, as', zf, by simp only [zb]; exact q⟩
        · cases e
      · split at e <;> cases e
  · intro h
    split at h
    · exact h.elim
    · rename_i as a2 z
      obtain ⟨r, as', e, q⟩ := h
      split at q
      · rename_i a3 zb
        exact ⟨_, _, by simp only [z, e, zb], q⟩
      · exact q.elim
theorem p_callA {f : FM} {gs : List Ag} {Q : Sl → AS → Prop} : Post (callA f gs) a Q = (match toSl 0 gs a with
  | none => False
  | some (as, a2) => PostF f as (fun r as' => match backSl a gs as' a2 with
    | some a3 => Q (retag none r) a3
    | none => False)) := by
  unfold callA
  rw [p_cl, p_ret]
  simp only [List.map_nil, List.append_nil]
theorem p_gApp {m1 m2 : M (List Ag)} {Q : List Ag → AS → Prop} : Post (gApp m1 m2) a Q = Post m1 a (fun g a1 => Post m2 a1 (fun h a2 => Q (g ++ h) a2)) := by unfold gApp; simp only [p_bnd, p_ret]
theorem p_gStar {t : M D} {r : M (List Ag)} {Q : List Ag → AS → Prop} : Post (gStar t r) a Q = Post t a (fun d a1 => ∃ l, itemsD d = some l ∧ Post r a1 (fun gs a2 => Q (l.map .v ++ gs) a2)) := by
  unfold gStar
  rw [p_bnd]
  congr
  funext d a1
  cases itemsD d with
  | none => simp [p_none]
  | some l => simp [p_bnd, p_ret]
theorem p_rV {t : M D} {Q : Ag → AS → Prop} : Post (rV t) a Q = Post t a (fun d a1 => Q (.v d) a1) := by unfold rV; simp only [p_bnd, p_ret]
theorem p_rB {Q : Ag → AS → Prop} : Post (rB i) a Q = (match a[i]? with
  | some (.fr _) => Q (.b i) a
  | some (.ow _ _) => Q (.b i) a
  | _ => False) := by
  unfold Post rB
  cases a[i]? with
  | none => simp only [no_ex]
  | some s => cases s <;> simp only [no_ex, ok_ex]
theorem p_fld {cs : Addr → Bool} {nm : Str} {mo : M Ag} {Q : D → AS → Prop} : Post (mFld cs nm mo) a Q = Post mo a (fun g a1 => Post (fldOf cs nm g) a1 Q) := by unfold mFld; rw [p_bnd]
theorem p_mth {nm : Option Str} {dp : Disp} {mo : M Ag} {mg : M (List Ag)} {Q : Sl → AS → Prop} : Post (mMth nm dp mo mg) a Q = Post mo a (fun g a1 => Post (insOf nm g) a1 (fun C a2 => match dp C with
  | none => False
  | some m => Post mg a2 (fun gs a3 => Post (callA m (g :: gs)) a3 Q))) := by
  unfold mMth
  simp only [p_bnd]
  congr
  funext g a1
  congr
  funext C a2
  cases dp C <;> simp only [p_none, p_bnd]
theorem p_mthS {nm : Str} {dp : Disp} {mo : M Ag} {mg : M (List Ag)} {Q : Sl → AS → Prop} : Post (mMthS nm dp mo mg) a Q = Post mo a (fun g a1 => Post (insOf (some nm) g) a1 (fun C a2 => match dp C with
  | none => False
  | some m => Post mg a2 (fun gs a3 => Post (callA m gs) a3 Q))) := by
  unfold mMthS
  simp only [p_bnd]
  congr
  funext g a1
  congr
  funext C a2
  cases dp C <;> simp only [p_none, p_bnd]
theorem p_noX : Post (noX m) a Q = Post m a Q := by
  apply propext
  unfold Post noX
  constructor
  · rintro ⟨r, a', e, q⟩
    split at e
    · rename_i r1 a1 z
      cases e
      exact ⟨_, _, z, q⟩
    · cases e
  · rintro ⟨r, a', e, q⟩
    exact ⟨r, a', by rw [e], q⟩
theorem p_prp {dp : Disp} {mo : M Ag} {Q : Sl → AS → Prop} : Post (mPrp dp mo) a Q = Post mo a (fun g a1 => Post (insOf none g) a1 (fun C a2 => match dp C with
  | none => False
  | some m => Post (callA m [g]) a2 Q)) := by
  unfold mPrp
  simp only [p_bnd]
  congr
  funext g a1
  congr
  funext C a2
  cases dp C <;> simp only [p_none, p_noX]
theorem p_lenO {dp : Disp} {mo : M Ag} {Q : Sl → AS → Prop} : Post (mLenO dp mo) a Q = Post mo a (fun g a1 => Post (insOf none g) a1 (fun C a2 => match dp C with
  | none => False
  | some m => Post (callA m [g]) a2 (fun s a3 => match s with
    | .fr (.int n) => (0 ≤ n ∧ n < 2 ^ 63) ∧ Q s a3
    | _ => False))) := by
  unfold mLenO asLen
  simp only [p_bnd]
  congr
  funext g a1
  congr
  funext C a2
  cases dp C with
  | none => simp only [p_none]
  | some m =>
    simp only [p_bnd]
    congr
    funext s a3
    rcases s with _ | d | ⟨t, o⟩
    · exact p_none
    · cases d <;> try exact p_none
      simp only [p_if, p_ret, p_none]
      apply propext
      constructor
      · intro h
        split at h
        · exact ⟨by assumption, h⟩
        · exact h.elim
      · intro h
        rw [if_pos h.1]
        exact h.2
    · exact p_none
theorem p_own2 {dp : Disp} {mo : M Ag} {mB : M D} {Q : Sl → AS → Prop} : Post (mOwn2 dp mo mB) a Q = Post mo a (fun g a1 => Post mB a1 (fun d a2 => Post (insOf none g) a2 (fun C a3 => match dp C with
  | none => False
  | some m => Post (callA m [g, .v d]) a3 Q))) := by
  unfold mOwn2
  simp only [p_bnd]
  congr
  funext g a1
  congr
  funext d a2
  congr
  funext C a3
  cases dp C <;> simp only [p_none]
theorem p_ownB {dp : Disp} {mo : M Ag} {mB : M D} {Q : Sl → AS → Prop} : Post (mOwnB dp mo mB) a Q = Post mo a (fun g a1 => Post mB a1 (fun d a2 => Post (insOf none g) a2 (fun C a3 => match dp C with
  | none => False
  | some m => insD C d = true ∧ Post (callA m [g, .v d]) a3 Q))) := by
  unfold mOwnB
  simp only [p_bnd]
  congr
  funext g a1
  congr
  funext d a2
  congr
  funext C a3
  cases dp C with
  | none => simp only [p_none]
  | some m =>
    simp only [p_if, p_none]
    apply propext
    split <;> simp_all
theorem p_augO {dp : Disp} {mB : M D} {Q : Out → AS → Prop} : Post (mAugO dp i mB) a Q = Post (mOwnB dp (rB i) mB) a (fun s a1 => i < a1.length ∧ Q .nx (a1.set i s)) := by
  unfold mAugO
  rw [p_set]
  rfl
theorem p_insOf {nm : Option Str} {g : Ag} {Q : Addr → AS → Prop} : Post (insOf nm g) a Q = (match g with
  | .v (.ins C fs) => nm.all (fun n => (fs.lookup n).isNone) = true ∧ Q C a
  | .b i => (match a[i]? with
    | some (.fr (.ins C fs)) => nm.all (fun n => (fs.lookup n).isNone) = true ∧ Q C a
    | some (.ow _ (.ins C fs)) => nm.all (fun n => (fs.lookup n).isNone) = true ∧ Q C a
    | _ => False)
  | _ => False) := by
  apply propext
  unfold Post insOf
  constructor
  · rintro ⟨r, a', e, q⟩
    split at e
    · split at e
      · rename_i h; cases e; exact ⟨h, q⟩
      · cases e
    · split at e
      · rename_i z
        split at e
        · rename_i h; cases e; (try simp only [z]); exact ⟨h, q⟩
        · cases e
      · rename_i z
        split at e
        · rename_i h; cases e; (try simp only [z]); exact ⟨h, q⟩
        · cases e
      · cases e
    · cases e
  · intro h
    split at h
    · exact ⟨_, _, if_pos h.1, h.2⟩
    · split at h
      · rename_i z
        exact ⟨_, _, by (try simp only [z]); exact if_pos h.1, h.2⟩
      · rename_i z
        exact ⟨_, _, by (try simp only [z]); exact if_pos h.1, h.2⟩
      · exact h.elim
    · exact h.elim
theorem p_fldOf {cs : Addr → Bool} {nm : Str} {g : Ag} {Q : D → AS → Prop} : Post (fldOf cs nm g) a Q = (match g with
  | .v (.ins C fs) => cs C = true ∧ ∃ d, fs.lookup nm = some d ∧ Q d a
  | .b i => (match a[i]? with
    | some (.fr (.ins C fs)) => cs C = true ∧ ∃ d, fs.lookup nm = some d ∧ Q d a
    | some (.ow _ (.ins C fs)) => cs C = true ∧ ∃ d, fs.lookup nm = some (.fr d) ∧ Q d a
    | _ => False)
  | _ => False) := by
  have key : ∀ {c : Prop} [Decidable c] {o : Option D}, (∃ r a', (if c then (match o with
      | some d => some (Er.ok d a)
      | none => none) else none) = some (.ok r a') ∧ Q r a') = (c ∧ ∃ d, o = some d ∧ Q d a) := fun {c _ o} => by
    by_cases h : c
    · cases o with
      | none => simp only [h, if_true, no_ex, true_and, reduceCtorEq, false_and, exists_false]
      | some d => simp only [h, if_true, ok_ex, true_and, p_some]
    · simp only [h, if_false, no_ex, false_and]
  have key2 : ∀ {c : Prop} [Decidable c] {o : Option Fd}, (∃ r a', (if c then (match o with
      | some (.fr d) => some (Er.ok d a)
      | _ => none) else none) = some (.ok r a') ∧ Q r a') = (c ∧ ∃ d, o = some (.fr d) ∧ Q d a) := fun {c _ o} => by
    by_cases h : c
    · rcases o with _ | d | l
      · simp only [h, if_true, no_ex, true_and, reduceCtorEq, false_and, exists_false]
      · simp only [h, if_true]
        simp only [ok_ex]
        simp only [true_and, Option.some.injEq, Fd.fr.injEq, exists_eq_left']
      · simp only [h, if_true, no_ex, true_and, reduceCtorEq, Option.some.injEq, false_and, exists_false]
    · simp only [h, if_false, no_ex, false_and]
  unfold Post fldOf
  rcases g with d | k
  · cases d <;> first | exact key | simp only [no_ex]
  · dsimp only
    cases a[k]? with
    | none => simp only [no_ex]
    | some x =>
      rcases x with _ | d | ⟨t, l | ⟨C, fs⟩⟩
      · simp only [no_ex]
      · cases d <;> first | exact key | simp only [no_ex]
      · simp only [no_ex]
      · exact key2
theorem p_setF {cs : Addr → Bool} {f : Str} {ms : M Sl} {Q : Out → AS → Prop} : Post (mSetF cs i f ms) a Q = Post ms a (fun s a1 => match a1[i]?, s with
  | some (.ow t (.ins C fs)), .fr d => (cs C && decide (fs.length < 1000)) = true ∧ Q .nx (a1.set i (.ow t (.ins C (putFd f (.fr d) fs))))
  | some (.ow t (.ins C fs)), .ow none (.lst l) => (cs C && decide (fs.length < 1000)) = true ∧ Q .nx (a1.set i (.ow t (.ins C (putFd f (.ow l) fs))))
  | _, _ => False) := by
  unfold mSetF
  rw [p_bnd]
  congr
  funext s a1
  unfold Post
  dsimp only
  cases a1[i]? with
  | none => simp only [no_ex]
  | some x => rcases x with _ | d | ⟨t, l | ⟨C, fs⟩⟩ <;> rcases s with _ | d2 | ⟨_ | t2, l2 | ⟨C2, fs2⟩⟩ <;> simp only [no_ex, if_ex]
theorem p_mk {C : Addr} {m : FM} {as : List Sl} {Q : Sl → List Sl → Prop} (h : (frs as).isSome = true) : PostF (mkM C m) as Q = PostF m (.ow (some 0) (.ins C []) :: as) (fun r as' => match r, as' with
  | .fr .non, .ow _ o :: _ => Q (.ow none o) as
  | _, _ => False) := by
  obtain ⟨ds, e0⟩ := Option.isSome_iff_exists.mp h
  apply propext
  unfold PostF mkM
  rw [e0]
  constructor
  · rintro ⟨r, a', e, q⟩
    simp only at e
    split at e
    · rename_i z
      cases e
      exact ⟨_, _, z, q⟩
    · cases e
    · cases e
  · rintro ⟨r, a', e, q⟩
    split at q
    · exact ⟨_, _, by simp only [e], q⟩
    · exact q.elim
theorem p_arg {n j : Nat} {π : List D → Option (List D)} {fm : FM} {as : List Sl} {Q : Sl → List Sl → Prop} : PostF (argM n j π fm) as Q = (as.length = n + j ∧ ∃ ds, (frs (as.drop n)).bind π = some ds ∧ PostF fm (ctag 0 (as.take n) ++ ds.map .fr) (fun r as' => Q (retag none r) (ctag 0 (as'.take n) ++ as.drop n))) := by
  apply propext
  unfold PostF argM
  constructor
  · rintro ⟨r, a', e, q⟩
    split at e
    · rename_i h
      refine ⟨h, ?_⟩
      split at e
      · cases e
      · rename_i ds z
        refine ⟨ds, z, ?_⟩
        split at e
        · cases e
        · rename_i r1 as' zf; cases e; exact ⟨_, _, zf, q⟩
        · cases e
    · cases e
  · rintro ⟨h, ds, z, r, as', e, q⟩
    exact ⟨_, _, by rw [if_pos h]; simp only [z, e], q⟩
theorem p_any {n : Nat} {m : Nat → FM} {as : List Sl} {Q : Sl → List Sl → Prop} : PostF (anyM n m) as Q = (n ≤ as.length ∧ PostF (m (as.length - n)) as Q) := by
  apply propext
  unfold PostF anyM
  constructor
  · rintro ⟨r, a', e, q⟩
    split at e
    · rename_i h; exact ⟨h, r, a', e, q⟩
    · cases e
  · rintro ⟨h, r, a', e, q⟩
    exact ⟨r, a', by rw [if_pos h]; exact e, q⟩
theorem p_kw {n j : Nat} {is : List Nat} {fm : FM} {as : List Sl} {Q : Sl → List Sl → Prop} : PostF (kwM n j is fm) as Q = (as.length = n + j ∧ ∃ ds, (frs (as.drop n)).bind (fun ds => some (pick is ds)) = some ds ∧ PostF fm (ctag 0 (as.take n) ++ ds.map .fr) (fun r as' => Q (retag none r) (ctag 0 (as'.take n) ++ as.drop n))) := p_arg
end
end L3
namespace L3
open PySem PySem.Spec PyProof.Rows L2
/-- one statement, then the rest -/
theorem p_step {m1 m2 : M Out} {a : AS} {Q : Out → AS → Prop} (P : AS → Prop) (h : Post m1 a (fun o a1 => o = .nx ∧ P a1)) (k : ∀ a1, P a1 → Post m2 a1 Q) : Post (mSeq m1 m2) a Q := by
  rw [p_seq]
  refine h.imp fun o a1 ⟨e, p⟩ => ?_
  subst e
  exact k a1 p
end L3
end
section
namespace L3
open PySem PySem.Spec PyProof.Rows L2
/-! ### rules in passing style: each is used from the outside in -/
def Get {α : Type} (o : Option α) (Q : α → Prop) : Prop := ∃ r, o = some r ∧ Q r
def getK (a : AS) (i : Nat) (Q : Sl → Prop) : Prop := ∃ s, a[i]? = some s ∧ Q s
def setK (a : AS) (i : Nat) (s : Sl) (Q : AS → Prop) : Prop := i < a.length ∧ Q (a.set i s)
def frzFsK (fs : List (Str × Fd)) (R : List (Str × D) → Prop) : Prop := R (frzFs fs)
def frzObK (o : Ob) (R : D → Prop) : Prop := R (frzOb o)
def frzK (s : Sl) (R : D → Prop) : Prop := Get (frzS s) R
def varK (s : Sl) (i : Nat) (a : AS) (Q : D → AS → Prop) : Prop := match s with
  | .fr d => Q d a
  | .ow none o => frzObK o fun d => setK a i (.fr d) (Q d)
  | _ => False
def viewK (s : Sl) (R : D → Prop) : Prop := Get (view s) R
def movK (s : Sl) (i : Nat) (a : AS) (Q : Sl → AS → Prop) : Prop := match s with
  | .fr d => Q (.fr d) a
  | .ow none o => setK a i .un (Q (.ow none o))
  | _ => False
def seqK (o : Out) (a : AS) (m2 : M Out) (Q : Out → AS → Prop) : Prop := match o with
  | .nx => Post m2 a Q
  | o => Q o a
def outK (as : List Sl) (a : AS) (R : List Sl → Prop) : Prop := R (outs as a)
def finK (o : Out) (as : List Sl) (a : AS) (Q : Sl → List Sl → Prop) : Prop := match o with
  | .rt r => outK as a fun l => Q r l
  | .nx => outK as a fun l => Q (.fr .non) l
  | _ => False
def unK (as : List Sl) (n : Nat) (Q : AS → Prop) : Prop := Q (as ++ List.replicate n .un)
def retK (s : Sl) (Q : Sl → Prop) : Prop := Q (retag none s)
def appK (s : Sl) (d : D) (i : Nat) (a : AS) (Q : Sl → AS → Prop) : Prop := match s with
  | .ow tg (.lst l) => l.length < sizeLine ∧ setK a i (.ow tg (.lst (l ++ [d]))) (Q (.fr .non))
  | _ => False
def lstK (d : D) (P : Prop) : Prop := match d with
  | .lst _ => P
  | _ => False
def lsetK (l : List D) (n : Nat) (d : D) (R : List D → Prop) : Prop := R (l.set n d)
def setIK (s : Sl) (j d : D) (k : Nat) (a : AS) (Q : Out → AS → Prop) : Prop := match s, j with
  | .ow tg (.lst l), .int z => Get (ixN l.length z) fun n => lsetK l n d fun l' => setK a k (.ow tg (.lst l')) (Q .nx)
  | _, _ => False
def gBK (s : Sl) (P : Prop) : Prop := match s with
  | .un => False
  | _ => P
def rBK (s : Sl) (P : Prop) : Prop := match s with
  | .un => False
  | _ => P
def toK (k : Nat) (gs : List Ag) (a : AS) (R : List Sl → AS → Prop) : Prop := ∃ as a', toSl k gs a = some (as, a') ∧ R as a'
def toBK (k : Nat) (s : Sl) (i : Nat) (gs : List Ag) (a : AS) (R : List Sl → AS → Prop) : Prop := match s with
  | .fr d => toK (k + 1) gs a fun l a' => R (.fr d :: l) a'
  | .ow _ o => setK a i .un fun a1 => toK (k + 1) gs a1 fun l a' => R (.ow (some k) o :: l) a'
  | .un => False
def backK (a0 : AS) (gs : List Ag) (as : List Sl) (a : AS) (R : AS → Prop) : Prop := Get (backSl a0 gs as a) R
def backBK (s0 : Sl) (a0 : AS) (i : Nat) (gs : List Ag) (s : Sl) (as : List Sl) (a : AS) (R : AS → Prop) : Prop := match s0 with
  | .ow t _ => getK a i fun u => (match u with
    | .un => setK a i (retag t s) fun a' => backK a0 gs as a' R
    | _ => False)
  | _ => backK a0 gs as a R
def dfK (as : List Sl) (dds : List D) (R : List Sl → Prop) : Prop := R (as ++ dds.map .fr)
def splK (n : Nat) (as : List Sl) (R : List Sl → List Sl → Prop) : Prop := R (as.take n) (as.drop n)
def frsK (as : List Sl) (R : List D → Prop) : Prop := Get (frs as) R
def ctgK (k : Nat) (as : List Sl) (R : List Sl → Prop) : Prop := R (ctag k as)
def apK (as : List Sl) (ds : List D) (R : List Sl → Prop) : Prop := R (as ++ ds.map .fr)
def apSK (as bs : List Sl) (R : List Sl → Prop) : Prop := R (as ++ bs)
def insK (nm : Option Str) (g : Ag) (a : AS) (R : Addr → AS → Prop) : Prop := Post (insOf nm g) a R
def fldK (cs : Addr → Bool) (nm : Str) (g : Ag) (a : AS) (R : D → AS → Prop) : Prop := Post (fldOf cs nm g) a R
def lenK (s : Sl) (R : Sl → Prop) : Prop := match s with
  | .fr (.int n) => (0 ≤ n ∧ n < 2 ^ 63) ∧ R s
  | _ => False
def stFK (cs : Addr → Bool) (f : Str) (s0 s : Sl) (i : Nat) (a : AS) (Q : Out → AS → Prop) : Prop := match s0, s with
  | .ow t (.ins C fs), .fr d => (cs C && decide (fs.length < 1000)) = true ∧ setK a i (.ow t (.ins C (putFd f (.fr d) fs))) (Q .nx)
  | .ow t (.ins C fs), .ow none (.lst l) => (cs C && decide (fs.length < 1000)) = true ∧ setK a i (.ow t (.ins C (putFd f (.ow l) fs))) (Q .nx)
  | _, _ => False
def mkK (r : Sl) (as' as : List Sl) (Q : Sl → List Sl → Prop) : Prop := match r, as' with
  | .fr .non, .ow _ o :: _ => Q (.ow none o) as
  | _, _ => False
section
variable {α β : Type} {m : M α} {f : α → M β} {a a' : AS} {Q Q' : α → AS → Prop} {R : β → AS → Prop} {d : D} {i : Nat} {s : Sl} {P : Prop}
theorem get_ex {o : Option α} {Q : α → Prop} : (∃ r, o = some r ∧ Q r) = Get o Q := rfl
theorem k_some {r : α} {Q : α → Prop} : Get (some r) Q = Q r := propext ⟨fun ⟨_, e, q⟩ => (by cases e; exact q), fun q => ⟨r, rfl, q⟩⟩
theorem k_no {Q : α → Prop} : Get none Q = False := propext ⟨fun ⟨_, e, q⟩ => (by cases e), False.elim⟩
theorem k_ite {c : Prop} [Decidable c] {r : α} {Q : α → Prop} : Get (if c then some r else none) Q = (c ∧ Q r) := by
  by_cases h : c
  · simp only [h, if_true, k_some, true_and]
  · simp only [h, if_false, k_no, false_and]
theorem getK_0 {x : Sl} {l : AS} {Q : Sl → Prop} : getK (x :: l) 0 Q = Q x := by unfold getK; simp
theorem getK_s {x : Sl} {l : AS} {Q : Sl → Prop} : getK (x :: l) (i + 1) Q = getK l i Q := by unfold getK; simp
theorem setK_0 {x : Sl} {l : AS} {Q : AS → Prop} : setK (x :: l) 0 s Q = Q (s :: l) := by unfold setK; simp
theorem setK_s {x : Sl} {l : AS} {Q : AS → Prop} : setK (x :: l) (i + 1) s Q = setK l i s fun l' => Q (x :: l') := by unfold setK; simp
theorem ff_0 {R : List (Str × D) → Prop} : frzFsK [] R = R [] := rfl
theorem ff_s {x : Str} {g : D} {r : List (Str × Fd)} {R : List (Str × D) → Prop} : frzFsK ((x, .fr g) :: r) R = frzFsK r fun l => R ((x, g) :: l) := rfl
theorem ff_o {x : Str} {g : List D} {r : List (Str × Fd)} {R : List (Str × D) → Prop} : frzFsK ((x, .ow g) :: r) R = frzFsK r fun l => R ((x, .lst g) :: l) := rfl
theorem fo_l {l : List D} {R : D → Prop} : frzObK (.lst l) R = R (.lst l) := rfl
theorem fo_i {C : Addr} {fs : List (Str × Fd)} {R : D → Prop} : frzObK (.ins C fs) R = frzFsK fs fun l => R (.ins C l) := rfl
theorem fk_fr {R : D → Prop} : frzK (.fr d) R = R d := k_some
theorem fk_ow {o : Ob} {R : D → Prop} : frzK (.ow none o) R = frzObK o R := k_some
theorem vk_fr {Q : D → AS → Prop} : varK (.fr d) i a Q = Q d a := rfl
theorem vk_ow {o : Ob} {Q : D → AS → Prop} : varK (.ow none o) i a Q = frzObK o fun d => setK a i (.fr d) (Q d) := rfl
theorem vw_fr {R : D → Prop} : viewK (.fr d) R = R d := k_some
theorem vw_l {t : Option Nat} {l : List D} {R : D → Prop} : viewK (.ow t (.lst l)) R = R (.lst l) := k_some
theorem mv_fr {Q : Sl → AS → Prop} : movK (.fr d) i a Q = Q (.fr d) a := rfl
theorem mv_ow {o : Ob} {Q : Sl → AS → Prop} : movK (.ow none o) i a Q = setK a i .un (Q (.ow none o)) := rfl
theorem sq_nx {m2 : M Out} {Q : Out → AS → Prop} : seqK .nx a m2 Q = Post m2 a Q := rfl
theorem sq_bk {m2 : M Out} {Q : Out → AS → Prop} : seqK .bk a m2 Q = Q .bk a := rfl
theorem sq_ct {m2 : M Out} {Q : Out → AS → Prop} : seqK .ct a m2 Q = Q .ct a := rfl
theorem sq_rt {m2 : M Out} {Q : Out → AS → Prop} : seqK (.rt s) a m2 Q = Q (.rt s) a := rfl
theorem fi_rt {l : List Sl} {Q : Sl → List Sl → Prop} : finK (.rt s) l a Q = outK l a fun l => Q s l := rfl
theorem fi_nx {l : List Sl} {Q : Sl → List Sl → Prop} : finK .nx l a Q = outK l a fun l => Q (.fr .non) l := rfl
theorem ou_0 {R : List Sl → Prop} : outK [] a R = R [] := rfl
theorem ou_fr {x : Sl} {ss : List Sl} {R : List Sl → Prop} : outK (.fr d :: ss) (x :: a) R = outK ss a fun l => R (.fr d :: l) := rfl
theorem ou_ow {k : Nat} {o o' : Ob} {ss : List Sl} {R : List Sl → Prop} : outK (.ow (some k) o :: ss) (.ow (some k) o' :: a) R = outK ss a fun l => R (.ow (some k) o' :: l) := by
  unfold outK
  simp only [outs, outSl, List.head?_cons, List.tail_cons, if_true]
theorem ou_un {k : Nat} {o : Ob} {ss : List Sl} {R : List Sl → Prop} : outK (.ow (some k) o :: ss) (.un :: a) R = outK ss a fun l => R (.un :: l) := rfl
theorem ou_of {k : Nat} {o : Ob} {ss : List Sl} {R : List Sl → Prop} : outK (.ow (some k) o :: ss) (.fr d :: a) R = outK ss a fun l => R (.un :: l) := rfl
theorem ou_on {k : Nat} {o o' : Ob} {ss : List Sl} {R : List Sl → Prop} : outK (.ow (some k) o :: ss) (.ow none o' :: a) R = outK ss a fun l => R (.un :: l) := rfl
theorem un_00 {Q : AS → Prop} : unK [] 0 Q = Q [] := rfl
theorem un_0s {n : Nat} {Q : AS → Prop} : unK [] (n + 1) Q = unK [] n fun l => Q (.un :: l) := rfl
theorem un_s {x : Sl} {l : AS} {n : Nat} {Q : AS → Prop} : unK (x :: l) n Q = unK l n fun l' => Q (x :: l') := rfl
theorem rk_fr {Q : Sl → Prop} : retK (.fr d) Q = Q (.fr d) := rfl
theorem rk_un {Q : Sl → Prop} : retK .un Q = Q .un := rfl
theorem rk_ow {t : Option Nat} {o : Ob} {Q : Sl → Prop} : retK (.ow t o) Q = Q (.ow none o) := rfl
theorem ak_l {tg : Option Nat} {l : List D} {Q : Sl → AS → Prop} : appK (.ow tg (.lst l)) d i a Q = (l.length < sizeLine ∧ setK a i (.ow tg (.lst (l ++ [d]))) (Q (.fr .non))) := rfl
theorem lk_l {l : List D} : lstK (.lst l) P = P := rfl
theorem si_l {tg : Option Nat} {l : List D} {z : Int} {k : Nat} {Q : Out → AS → Prop} : setIK (.ow tg (.lst l)) (.int z) d k a Q = Get (ixN l.length z) fun n => lsetK l n d fun l' => setK a k (.ow tg (.lst l')) (Q .nx) := rfl
theorem ls_0 {x : D} {l : List D} {R : List D → Prop} : lsetK (x :: l) 0 d R = R (d :: l) := rfl
theorem ls_s {x : D} {l : List D} {n : Nat} {R : List D → Prop} : lsetK (x :: l) (n + 1) d R = lsetK l n d fun l' => R (x :: l') := rfl
theorem gb_fr : gBK (.fr d) P = P := rfl
theorem gb_ow {t : Option Nat} {o : Ob} : gBK (.ow t o) P = P := rfl
theorem rb_fr : rBK (.fr d) P = P := rfl
theorem rb_ow {t : Option Nat} {o : Ob} : rBK (.ow t o) P = P := rfl
theorem to_0 {k : Nat} {R : List Sl → AS → Prop} : toK k [] a R = R [] a := propext ⟨fun ⟨_, _, e, q⟩ => (by cases e; exact q), fun q => ⟨_, _, rfl, q⟩⟩
theorem to_v {k : Nat} {gs : List Ag} {R : List Sl → AS → Prop} : toK k (.v d :: gs) a R = toK (k + 1) gs a fun l a' => R (.fr d :: l) a' := by
  apply propext
  unfold toK
  constructor
  · rintro ⟨as, a', e, q⟩
    simp only [toSl] at e
    split at e
    · rename_i l a2 z; cases e; exact ⟨_, _, z, q⟩
    · cases e
  · rintro ⟨l, a', e, q⟩
    exact ⟨_, _, by simp only [toSl, e], q⟩
theorem to_b {k : Nat} {gs : List Ag} {R : List Sl → AS → Prop} : toK k (.b i :: gs) a R = getK a i fun s => toBK k s i gs a R := by
  apply propext
  unfold toK getK
  constructor
  · rintro ⟨as, a', e, q⟩
    simp only [toSl] at e
    split at e
    · rename_i d z
      split at e
      · rename_i l a2 z2; cases e; exact ⟨_, z, _, _, z2, q⟩
      · cases e
    · rename_i t o z
      split at e
      · rename_i l a2 z2; cases e; exact ⟨_, z, (List.getElem?_eq_some_iff.mp z).1, _, _, z2, q⟩
      · cases e
    · cases e
  · rintro ⟨s, z, h⟩
    cases s with
    | un => exact h.elim
    | fr d =>
      obtain ⟨l, a2, z2, q⟩ := h
      exact ⟨_, _, by simp only [toSl, z, z2], q⟩
    | ow t o =>
      obtain ⟨_, l, a2, z2, q⟩ := h
      exact ⟨_, _, by simp only [toSl, z, z2], q⟩
theorem to_map {k : Nat} {ds : List D} {R : List Sl → AS → Prop} : toK k (ds.map Ag.v) a R = R (ds.map Sl.fr) a := by
  induction ds generalizing k R with
  | nil => exact to_0
  | cons d ds ih => rw [List.map_cons, to_v, ih]; rfl
theorem to_mapn {k : Nat} {ds : List D} {R : List Sl → AS → Prop} : toK k (ds.map Ag.v ++ []) a R = R (ds.map Sl.fr) a := by rw [List.append_nil]; exact to_map
theorem tb_fr {k : Nat} {gs : List Ag} {R : List Sl → AS → Prop} : toBK k (.fr d) i gs a R = toK (k + 1) gs a fun l a' => R (.fr d :: l) a' := rfl
theorem tb_ow {k : Nat} {t : Option Nat} {o : Ob} {gs : List Ag} {R : List Sl → AS → Prop} : toBK k (.ow t o) i gs a R = setK a i .un fun a1 => toK (k + 1) gs a1 fun l a' => R (.ow (some k) o :: l) a' := rfl
theorem bk_0 {a0 : AS} {as : List Sl} {R : AS → Prop} : backK a0 [] as a R = R a := by unfold backK; cases as <;> exact k_some
theorem bk_v {a0 : AS} {gs : List Ag} {as : List Sl} {R : AS → Prop} : backK a0 (.v d :: gs) (s :: as) a R = backK a0 gs as a R := rfl
theorem bk_b {a0 : AS} {gs : List Ag} {as : List Sl} {R : AS → Prop} : backK a0 (.b i :: gs) (s :: as) a R = (match a0[i]? with
  | some s0 => backBK s0 a0 i gs s as a R
  | none => backK a0 gs as a R) := by
  unfold backK
  simp only [backSl]
  cases a0[i]? with
  | none => rfl
  | some s0 =>
    cases s0 with
    | un => rfl
    | fr d => rfl
    | ow t o =>
      apply propext
      simp only [backBK, getK, backK, setK]
      constructor
      · rintro ⟨r, e, q⟩
        split at e
        · rename_i z
          exact ⟨_, z, (List.getElem?_eq_some_iff.mp z).1, r, e, q⟩
        · cases e
      · rintro ⟨u, z, h⟩
        cases u with
        | un =>
          obtain ⟨_, r, e, q⟩ := h
          exact ⟨r, by simp only [z]; exact e, q⟩
        | fr d => exact h.elim
        | ow t o => exact h.elim
theorem bk_b0 {x : Sl} {l : AS} {gs : List Ag} {as : List Sl} {R : AS → Prop} : backK (x :: l) (.b 0 :: gs) (s :: as) a R = backBK x (x :: l) 0 gs s as a R := by rw [bk_b]; rfl
def bkAt (l : AS) (j : Nat) (a0 : AS) (i : Nat) (gs : List Ag) (s : Sl) (as : List Sl) (a : AS) (R : AS → Prop) : Prop := match l[j]? with
  | some s0 => backBK s0 a0 i gs s as a R
  | none => backK a0 gs as a R
theorem bk_bi {a0 : AS} {gs : List Ag} {as : List Sl} {R : AS → Prop} : backK a0 (.b i :: gs) (s :: as) a R = bkAt a0 i a0 i gs s as a R := bk_b
theorem ba_0 {x : Sl} {l a0 : AS} {gs : List Ag} {as : List Sl} {R : AS → Prop} : bkAt (x :: l) 0 a0 i gs s as a R = backBK x a0 i gs s as a R := rfl
theorem ba_s {x : Sl} {l a0 : AS} {j : Nat} {gs : List Ag} {as : List Sl} {R : AS → Prop} : bkAt (x :: l) (j + 1) a0 i gs s as a R = bkAt l j a0 i gs s as a R := by unfold bkAt; simp
theorem bk_map {a0 : AS} {ds : List D} {as : List Sl} {R : AS → Prop} (h : as.length = ds.length) : backK a0 (ds.map Ag.v) as a R = R a := by
  induction ds generalizing as with
  | nil => exact bk_0
  | cons d ds ih =>
    cases as with
    | nil => cases h
    | cons s as => rw [List.map_cons, bk_v]; exact ih (by simpa using h)
theorem bk_mapf {a0 : AS} {ds : List D} {R : AS → Prop} : backK a0 (ds.map Ag.v) (ds.map Sl.fr) a R = R a := bk_map (by simp)
theorem bk_mapn {a0 : AS} {ds : List D} {R : AS → Prop} : backK a0 (ds.map Ag.v ++ []) (ds.map Sl.fr) a R = R a := by rw [List.append_nil]; exact bk_mapf
theorem bb_fr {a0 : AS} {gs : List Ag} {as : List Sl} {R : AS → Prop} : backBK (.fr d) a0 i gs s as a R = backK a0 gs as a R := rfl
def unIs (u : Sl) (P : Prop) : Prop := match u with
  | .un => P
  | _ => False
theorem bb_ow {t : Option Nat} {o : Ob} {a0 : AS} {gs : List Ag} {as : List Sl} {R : AS → Prop} : backBK (.ow t o) a0 i gs s as a R = getK a i fun u => unIs u (setK a i (retag t s) fun a' => backK a0 gs as a' R) := by
  show getK a i _ = getK a i _
  congr
theorem ui_un : unIs .un P = P := rfl
theorem set_tag {t t' : Option Nat} {o : Ob} {Q : AS → Prop} : setK a i (retag t (.ow t' o)) Q = setK a i (.ow t o) Q := rfl
theorem set_tagf {t : Option Nat} {Q : AS → Prop} : setK a i (retag t (.fr d)) Q = setK a i (.fr d) Q := rfl
theorem df_0 {as : List Sl} {R : List Sl → Prop} : dfK as [] R = R as := by unfold dfK; rw [List.map_nil, List.append_nil]
theorem sp_0 {as : List Sl} {R : List Sl → List Sl → Prop} : splK 0 as R = R [] as := by unfold splK; simp
theorem sp_n {n : Nat} {R : List Sl → List Sl → Prop} : splK n [] R = R [] [] := by unfold splK; simp
theorem sp_s {n : Nat} {x : Sl} {as : List Sl} {R : List Sl → List Sl → Prop} : splK (n + 1) (x :: as) R = splK n as fun l r => R (x :: l) r := by unfold splK; simp
theorem fs_0 {R : List D → Prop} : frsK [] R = R [] := k_some
theorem fs_s {as : List Sl} {R : List D → Prop} : frsK (.fr d :: as) R = frsK as fun l => R (d :: l) := by
  unfold frsK
  simp only [frs]
  cases frs as with
  | none => exact k_no.trans k_no.symm
  | some l =>
    show Get (some (d :: l)) R = Get (some l) fun l => R (d :: l)
    rw [k_some, k_some]
theorem fs_map {ds : List D} {R : List D → Prop} : frsK (ds.map Sl.fr) R = R ds := by
  induction ds generalizing R with
  | nil => exact fs_0
  | cons d ds ih => rw [List.map_cons, fs_s, ih]
theorem ct_0 {k : Nat} {R : List Sl → Prop} : ctgK k [] R = R [] := rfl
theorem ct_fr {k : Nat} {as : List Sl} {R : List Sl → Prop} : ctgK k (.fr d :: as) R = ctgK (k + 1) as fun l => R (.fr d :: l) := rfl
theorem ct_un {k : Nat} {as : List Sl} {R : List Sl → Prop} : ctgK k (.un :: as) R = ctgK (k + 1) as fun l => R (.un :: l) := rfl
theorem ct_ow {k : Nat} {t : Option Nat} {o : Ob} {as : List Sl} {R : List Sl → Prop} : ctgK k (.ow t o :: as) R = ctgK (k + 1) as fun l => R (.ow (some k) o :: l) := rfl
theorem ap_00 {R : List Sl → Prop} : apK [] [] R = R [] := rfl
theorem ap_0s {ds : List D} {R : List Sl → Prop} : apK [] (d :: ds) R = apK [] ds fun l => R (.fr d :: l) := rfl
theorem ap_s {ds : List D} {as : List Sl} {R : List Sl → Prop} : apK (s :: as) ds R = apK as ds fun l => R (s :: l) := rfl
theorem as_0 {bs : List Sl} {R : List Sl → Prop} : apSK [] bs R = R bs := rfl
theorem as_s {as bs : List Sl} {R : List Sl → Prop} : apSK (s :: as) bs R = apSK as bs fun l => R (s :: l) := rfl
theorem in_v {nm : Option Str} {C : Addr} {fs : List (Str × D)} {R : Addr → AS → Prop} : insK nm (.v (.ins C fs)) a R = (nm.all (fun n => (fs.lookup n).isNone) = true ∧ R C a) := p_insOf
def inBK (nm : Option Str) (s : Sl) (a : AS) (R : Addr → AS → Prop) : Prop := match s with
  | .fr (.ins C fs) => nm.all (fun n => (fs.lookup n).isNone) = true ∧ R C a
  | .ow _ (.ins C fs) => nm.all (fun n => (fs.lookup n).isNone) = true ∧ R C a
  | _ => False
theorem in_b {nm : Option Str} {R : Addr → AS → Prop} : insK nm (.b i) a R = getK a i fun s => inBK nm s a R := by
  unfold insK getK
  rw [p_insOf]
  dsimp only
  cases a[i]? with
  | none => simp
  | some s => rcases s with _ | d | ⟨t, l | ⟨C, fs⟩⟩ <;> first | (simp [inBK]; done) | (cases d <;> simp [inBK])
theorem ib_fr {nm : Option Str} {C : Addr} {fs : List (Str × D)} {R : Addr → AS → Prop} : inBK nm (.fr (.ins C fs)) a R = (nm.all (fun n => (fs.lookup n).isNone) = true ∧ R C a) := rfl
theorem ib_ow {nm : Option Str} {t : Option Nat} {C : Addr} {fs : List (Str × Fd)} {R : Addr → AS → Prop} : inBK nm (.ow t (.ins C fs)) a R = (nm.all (fun n => (fs.lookup n).isNone) = true ∧ R C a) := rfl
theorem fl_v {cs : Addr → Bool} {nm : Str} {C : Addr} {fs : List (Str × D)} {R : D → AS → Prop} : fldK cs nm (.v (.ins C fs)) a R = (cs C = true ∧ Get (fs.lookup nm) fun d => R d a) := p_fldOf
def frFK (f : Fd) (R : D → Prop) : Prop := match f with
  | .fr d => R d
  | _ => False
theorem fr_fd {R : D → Prop} : frFK (.fr d) R = R d := rfl
def flBK (cs : Addr → Bool) (nm : Str) (s : Sl) (R : D → Prop) : Prop := match s with
  | .fr (.ins C fs) => cs C = true ∧ Get (fs.lookup nm) R
  | .ow _ (.ins C fs) => cs C = true ∧ Get (fs.lookup nm) fun f => frFK f R
  | _ => False
theorem fl_b {cs : Addr → Bool} {nm : Str} {R : D → AS → Prop} : fldK cs nm (.b i) a R = getK a i fun s => flBK cs nm s fun d => R d a := by
  unfold fldK getK
  rw [p_fldOf]
  dsimp only
  cases a[i]? with
  | none => simp
  | some s =>
    rcases s with _ | d | ⟨t, l | ⟨C, fs⟩⟩
    · simp [flBK]
    · cases d <;> simp [flBK, Get]
    · simp [flBK]
    · simp only [flBK, Get, Option.some.injEq, exists_eq_left']
      apply propext
      constructor
      · rintro ⟨h, d, e, q⟩
        exact ⟨h, _, e, q⟩
      · rintro ⟨h, f, e, q⟩
        cases f with
        | fr d => exact ⟨h, d, e, q⟩
        | ow l => exact q.elim
theorem fb_fr {cs : Addr → Bool} {nm : Str} {C : Addr} {fs : List (Str × D)} {R : D → Prop} : flBK cs nm (.fr (.ins C fs)) R = (cs C = true ∧ Get (fs.lookup nm) R) := rfl
theorem fb_ow {cs : Addr → Bool} {nm : Str} {t : Option Nat} {C : Addr} {fs : List (Str × Fd)} {R : D → Prop} : flBK cs nm (.ow t (.ins C fs)) R = (cs C = true ∧ Get (fs.lookup nm) fun f => frFK f R) := rfl
theorem get_look {γ : Type} {x y : Str} {v : γ} {l : List (Str × γ)} {R : γ → Prop} : Get (List.lookup x ((y, v) :: l)) R = (if x = y then R v else Get (List.lookup x l) R) := by
  rw [List.lookup_cons]
  by_cases h : x = y
  · subst h
    simp [k_some]
  · rw [if_neg h, show (x == y) = false from beq_false_of_ne h]
theorem ln_i {n : Int} {R : Sl → Prop} : lenK (.fr (.int n)) R = ((0 ≤ n ∧ n < 2 ^ 63) ∧ R (.fr (.int n))) := rfl
theorem sf_fr {cs : Addr → Bool} {f : Str} {t : Option Nat} {C : Addr} {fs : List (Str × Fd)} {Q : Out → AS → Prop} : stFK cs f (.ow t (.ins C fs)) (.fr d) i a Q = ((cs C && decide (fs.length < 1000)) = true ∧ setK a i (.ow t (.ins C (putFd f (.fr d) fs))) (Q .nx)) := rfl
theorem sf_ow {cs : Addr → Bool} {f : Str} {t : Option Nat} {C : Addr} {fs : List (Str × Fd)} {l : List D} {Q : Out → AS → Prop} : stFK cs f (.ow t (.ins C fs)) (.ow none (.lst l)) i a Q = ((cs C && decide (fs.length < 1000)) = true ∧ setK a i (.ow t (.ins C (putFd f (.ow l) fs))) (Q .nx)) := rfl
theorem mk_r {o : Ob} {t : Option Nat} {bs as : List Sl} {Q : Sl → List Sl → Prop} : mkK (.fr .non) (.ow t o :: bs) as Q = Q (.ow none o) as := rfl

/-! the computations -/
theorem w_var {Q : D → AS → Prop} : Post (mVar i) a Q = getK a i fun s => varK s i a Q := by
  rw [p_var]
  unfold getK
  cases z : a[i]? with
  | none => simp
  | some s =>
    have h := (List.getElem?_eq_some_iff.mp z).1
    rcases s with _ | d | ⟨_ | t, o⟩ <;> simp [varK, frzObK, setK, h]
theorem w_view {Q : D → AS → Prop} : Post (mView i) a Q = getK a i fun s => viewK s fun d => Q d a := by
  rw [p_view]
  unfold getK viewK
  cases a[i]? with
  | none => simp
  | some s => cases h : view s <;> simp [Get, h]
theorem w_lift {o : Option α} : Post (lift o) a Q = Get o fun r => Q r a := p_lift
theorem w_frz {ms : M Sl} {Q : D → AS → Prop} : Post (mFrz ms) a Q = Post ms a fun s a1 => frzK s fun d => Q d a1 := p_frz
theorem w_m1 {g : D → Option α} {mA : M D} : Post (m1 g mA) a Q = Post mA a fun d a1 => Get (g d) fun r => Q r a1 := p_m1
theorem w_m2 {g : D → D → Option α} {mA mB : M D} : Post (m2 g mA mB) a Q = Post mA a fun x a1 => Post mB a1 fun y a2 => Get (g x y) fun r => Q r a2 := p_m2
theorem w_mV2 {g : D → D → Option α} {mB : M D} : Post (mV2 g i mB) a Q = Post (mView i) a fun _ a1 => Post mB a1 fun y a2 => Post (mView i) a2 fun x a3 => Get (g x y) fun r => Q r a3 := p_mV2
theorem w_m2V {g : D → D → Option α} {mB : M D} : Post (m2V g mB i) a Q = Post mB a fun x a1 => Post (mView i) a1 fun y a2 => Get (g x y) fun r => Q r a2 := p_m2V
theorem w_tst {t : M D} {Q : Bool → AS → Prop} : Post (mTst t) a Q = Post t a fun d a1 => Get (blD d) fun b => Q b a1 := p_m1
theorem w_isN {t : M D} {Q : Bool → AS → Prop} : Post (mIsN t) a Q = Post t a fun d a1 => Q (isND d) a1 := by unfold mIsN; rw [w_m1]; simp only [k_some]
theorem w_notN {t : M D} {Q : Bool → AS → Prop} : Post (mNotN t) a Q = Post t a fun d a1 => Q (!isND d) a1 := by unfold mNotN; rw [w_m1]; simp only [k_some]
def bvK (x : D) (A B : Prop) : Prop := match x with
  | .bl true => A
  | .bl false => B
  | _ => False
theorem bv_bl {b : Bool} {A B : Prop} : bvK (.bl b) A B = (if b = true then A else B) := by cases b <;> rfl
theorem w_andV {t u : M D} {Q : D → AS → Prop} : Post (mAndV t u) a Q = Post t a fun x a1 => bvK x (Post u a1 Q) (Q (.bl false) a1) := by
  rw [p_andV]; rfl
theorem w_orV {t u : M D} {Q : D → AS → Prop} : Post (mOrV t u) a Q = Post t a fun x a1 => bvK x (Q (.bl true) a1) (Post u a1 Q) := by
  rw [p_orV]; rfl
def nvK (x : D) (R : D → Prop) : Prop := match x with
  | .bl b => R (.bl (!b))
  | _ => False
theorem nv_bl {b : Bool} {R : D → Prop} : nvK (.bl b) R = R (.bl (!b)) := rfl
theorem w_notV {t : M D} {Q : D → AS → Prop} : Post (mNotV t) a Q = Post t a fun x a1 => nvK x fun d => Q d a1 := by
  unfold mNotV
  rw [w_m1]
  congr
  funext x a1
  cases x <;> first | exact k_some | exact k_no
theorem w_ch {no : α} {f : D → D → Option Bool} {g : D → D → Option α} {ma mb mc : M D} : Post (mCh no f g ma mb mc) a Q = Post ma a fun x a1 => Post mb a1 fun y a2 => Get (f x y) fun k => if k = true then Post mc a2 (fun z a3 => Get (g y z) fun r => Q r a3) else Q no a2 := p_ch
def partK (x : D) (R : Option Int → Prop) : Prop := match x with
  | .int i => R (some i)
  | _ => False
theorem pt_i {j : Int} {R : Option Int → Prop} : partK (.int j) R = R (some j) := rfl
theorem w_part {t : M D} {Q : Option Int → AS → Prop} : Post (mPart t) a Q = Post t a fun x a1 => partK x fun r => Q r a1 := by
  rw [p_part]; rfl
theorem w_sl {t : M D} {l h : M (Option Int)} {Q : Sl → AS → Prop} : Post (mSl t l h) a Q = Post t a fun x a1 => Post l a1 fun i a2 => Post h a2 fun j a3 => Get (sliceD x i j) fun r => Q r a3 := p_sl
theorem w_slV {k : Nat} {l h : M (Option Int)} {Q : Sl → AS → Prop} : Post (mSlV k l h) a Q = Post (mView k) a fun _ a1 => Post l a1 fun i a2 => Post h a2 fun j a3 => Post (mView k) a3 fun x a4 => Get (sliceD x i j) fun r => Q r a4 := p_slV
theorem w_cal {g : List D → Option Sl} {r : M (List D)} {Q : Sl → AS → Prop} : Post (mCal g r) a Q = Post r a fun l a1 => Get (g l) fun s => Q s a1 := p_cal
theorem w_lenV {Q : Sl → AS → Prop} : Post (mLenV i) a Q = Post (mView i) a fun x a1 => Get (fnLen [x]) fun s => Q s a1 := p_lenV
theorem w_is {g : D → Option Bool} {t : M D} {Q : D → AS → Prop} : Post (mIs g t) a Q = Post t a fun d a1 => Get (g d) fun b => Q (.bl b) a1 := p_is
theorem w_isO {g : Addr → Option Bool} {t : M D} {Q : D → AS → Prop} : Post (mIsO g t) a Q = Post t a fun d a1 => Get (isOwn g d) fun b => Q (.bl b) a1 := p_isO
theorem w_put {Q : Out → AS → Prop} : Post (mPut i s) a Q = setK a i s (Q .nx) := p_put
theorem w_set {ms : M Sl} {Q : Out → AS → Prop} : Post (mSet i ms) a Q = Post ms a fun s a1 => setK a1 i s (Q .nx) := p_set
theorem w_move {Q : Sl → AS → Prop} : Post (mMove i) a Q = getK a i fun s => movK s i a Q := by
  rw [p_move]
  unfold getK
  cases z : a[i]? with
  | none => simp
  | some s =>
    have h := (List.getElem?_eq_some_iff.mp z).1
    rcases s with _ | d | ⟨_ | t, o⟩ <;> simp [movK, setK, h]
theorem w_seq {m1 m2 : M Out} {Q : Out → AS → Prop} : Post (mSeq m1 m2) a Q = Post m1 a fun o a1 => seqK o a1 m2 Q := by
  rw [p_seq]; rfl
theorem w_asg {g : MG} {t : M D} {Q : Out → AS → Prop} : Post (mAsg g t) a Q = Post t a fun d a1 => Get (g d a1) (Q .nx) := p_asg
theorem w_app {t : M D} {Q : Sl → AS → Prop} : Post (mApp i t) a Q = Post (mView i) a fun v a1 => lstK v (Post t a1 fun d a2 => getK a2 i fun s => appK s d i a2 Q) := by
  rw [p_app]
  congr
  funext v a1
  cases v <;> try rfl
  show Post t a1 _ = Post t a1 _
  congr
  funext d a2
  unfold getK
  cases z : a2[i]? with
  | none => simp
  | some s =>
    have h := (List.getElem?_eq_some_iff.mp z).1
    rcases s with _ | d | ⟨t, l | ⟨C, fs⟩⟩ <;> simp [appK, setK, h]
theorem w_setI {k : Nat} {mi t : M D} {Q : Out → AS → Prop} : Post (mSetI k mi t) a Q = Post t a fun d a1 => Post (mView k) a1 fun _ a2 => Post mi a2 fun j a3 => getK a3 k fun s => setIK s j d k a3 Q := by
  rw [p_setI]
  congr
  funext d a1
  congr
  funext v a2
  congr
  funext j a3
  unfold getK
  cases z : a3[k]? with
  | none => simp
  | some s =>
    have h := (List.getElem?_eq_some_iff.mp z).1
    rcases s with _ | d | ⟨t, l | ⟨C, fs⟩⟩ <;> cases j <;> simp [setIK, setK, lsetK, Get, h]
theorem w_items {t : M D} {Q : List D → AS → Prop} : Post (mItems t) a Q = Post t a fun d a1 => Get (itemsD d) fun l => Q l a1 := p_items
theorem w_gB {r : M (List Ag)} {Q : List Ag → AS → Prop} : Post (gB i r) a Q = getK a i fun s => gBK s (Post r a fun l a2 => Q (.b i :: l) a2) := by
  rw [p_gB]
  unfold getK
  cases a[i]? with
  | none => simp
  | some s => cases s <;> simp [gBK]
theorem w_rB {Q : Ag → AS → Prop} : Post (rB i) a Q = getK a i fun s => rBK s (Q (.b i) a) := by
  rw [p_rB]
  unfold getK
  cases a[i]? with
  | none => simp
  | some s => cases s <;> simp [rBK]
theorem w_cl {f : FM} {mg : M (List Ag)} {dds : List D} {Q : Sl → AS → Prop} : Post (mCl f mg dds) a Q = Post mg a fun gs a1 => toK 0 gs a1 fun as a2 => dfK as dds fun as' => PostF f as' fun r bs => backK a1 gs bs a2 fun a3 => retK r fun r' => Q r' a3 := by
  rw [p_cl]
  congr
  funext gs a1
  apply propext
  unfold toK dfK backK
  constructor
  · intro h
    split at h
    · exact h.elim
    · rename_i as a2 z
      refine ⟨as, a2, z, h.imp fun r bs hh => ?_⟩
      split at hh
      · rename_i a3 z3; exact ⟨a3, z3, hh⟩
      · exact hh.elim
  · rintro ⟨as, a2, z, h⟩
    simp only [z]
    refine h.imp fun r bs ⟨a3, z3, hh⟩ => ?_
    simp only [z3]
    exact hh
theorem w_callA {f : FM} {gs : List Ag} {Q : Sl → AS → Prop} : Post (callA f gs) a Q = toK 0 gs a fun as a2 => PostF f as fun r bs => backK a gs bs a2 fun a3 => retK r fun r' => Q r' a3 := by
  unfold callA
  rw [w_cl, p_ret]
  simp only [df_0]
theorem w_gStar {t : M D} {r : M (List Ag)} {Q : List Ag → AS → Prop} : Post (gStar t r) a Q = Post t a fun d a1 => Get (itemsD d) fun l => Post r a1 fun gs a2 => Q (l.map .v ++ gs) a2 := p_gStar
theorem w_fld {cs : Addr → Bool} {nm : Str} {mo : M Ag} {Q : D → AS → Prop} : Post (mFld cs nm mo) a Q = Post mo a fun g a1 => fldK cs nm g a1 Q := p_fld
theorem dk {C : Addr} {dp : Disp} {X : FM → Prop} : (match dp C with
  | none => False
  | some m => X m) = Get (dp C) X := by
  cases h : dp C with
  | none => exact k_no.symm
  | some m =>
    show X m = Get (some m) X
    rw [k_some]
theorem get_d1 {C : Addr} {fm : FM} {X : FM → Prop} : Get (disp1 C fm C) X = X fm := by unfold disp1; rw [if_pos rfl]; exact k_some
theorem w_mth {nm : Option Str} {dp : Disp} {mo : M Ag} {mg : M (List Ag)} {Q : Sl → AS → Prop} : Post (mMth nm dp mo mg) a Q = Post mo a fun g a1 => insK nm g a1 fun C a2 => Get (dp C) fun fm => Post mg a2 fun gs a3 => Post (callA fm (g :: gs)) a3 Q := by
  rw [p_mth]
  congr
  funext g a1
  show Post (insOf nm g) a1 _ = Post (insOf nm g) a1 _
  congr
  funext C a2
  cases dp C with
  | none => exact k_no.symm
  | some m => rw [k_some]
theorem w_mthS {nm : Str} {dp : Disp} {mo : M Ag} {mg : M (List Ag)} {Q : Sl → AS → Prop} : Post (mMthS nm dp mo mg) a Q = Post mo a fun g a1 => insK (some nm) g a1 fun C a2 => Get (dp C) fun fm => Post mg a2 fun gs a3 => Post (callA fm gs) a3 Q := by
  rw [p_mthS]
  congr
  funext g a1
  show Post (insOf (some nm) g) a1 _ = Post (insOf (some nm) g) a1 _
  congr
  funext C a2
  cases dp C with
  | none => exact k_no.symm
  | some m => rw [k_some]
theorem w_prp {dp : Disp} {mo : M Ag} {Q : Sl → AS → Prop} : Post (mPrp dp mo) a Q = Post mo a fun g a1 => insK none g a1 fun C a2 => Get (dp C) fun fm => Post (callA fm [g]) a2 Q := by
  rw [p_prp]
  congr
  funext g a1
  show Post (insOf none g) a1 _ = Post (insOf none g) a1 _
  congr
  funext C a2
  cases dp C with
  | none => exact k_no.symm
  | some m => rw [k_some]
theorem w_lenO {dp : Disp} {mo : M Ag} {Q : Sl → AS → Prop} : Post (mLenO dp mo) a Q = Post mo a fun g a1 => insK none g a1 fun C a2 => Get (dp C) fun fm => Post (callA fm [g]) a2 fun s a3 => lenK s fun s => Q s a3 := by
  rw [p_lenO]
  congr
  funext g a1
  show Post (insOf none g) a1 _ = Post (insOf none g) a1 _
  congr
  funext C a2
  cases dp C with
  | none => exact k_no.symm
  | some m =>
    rw [k_some]
    show Post (callA m [g]) a2 _ = Post (callA m [g]) a2 _
    congr
theorem w_own2 {dp : Disp} {mo : M Ag} {mB : M D} {Q : Sl → AS → Prop} : Post (mOwn2 dp mo mB) a Q = Post mo a fun g a1 => Post mB a1 fun d a2 => insK none g a2 fun C a3 => Get (dp C) fun fm => Post (callA fm [g, .v d]) a3 Q := by
  rw [p_own2]
  congr
  funext g a1
  congr
  funext d a2
  show Post (insOf none g) a2 _ = Post (insOf none g) a2 _
  congr
  funext C a3
  cases dp C with
  | none => exact k_no.symm
  | some m => rw [k_some]
theorem w_ownB {dp : Disp} {mo : M Ag} {mB : M D} {Q : Sl → AS → Prop} : Post (mOwnB dp mo mB) a Q = Post mo a fun g a1 => Post mB a1 fun d a2 => insK none g a2 fun C a3 => Get (dp C) fun fm => insD C d = true ∧ Post (callA fm [g, .v d]) a3 Q := by
  rw [p_ownB]
  congr
  funext g a1
  congr
  funext d a2
  show Post (insOf none g) a2 _ = Post (insOf none g) a2 _
  congr
  funext C a3
  cases dp C with
  | none => exact k_no.symm
  | some m => rw [k_some]
theorem insD_i {C : Addr} {fs : List (Str × D)} : insD C (.ins C fs) = true := by simp [insD]
theorem w_augO {dp : Disp} {mB : M D} {Q : Out → AS → Prop} : Post (mAugO dp i mB) a Q = Post (mOwnB dp (rB i) mB) a fun s a1 => setK a1 i s (Q .nx) := p_augO
theorem w_setF {cs : Addr → Bool} {f : Str} {ms : M Sl} {Q : Out → AS → Prop} : Post (mSetF cs i f ms) a Q = Post ms a fun s a1 => getK a1 i fun s0 => stFK cs f s0 s i a1 Q := by
  rw [p_setF]
  congr
  funext s a1
  unfold getK
  cases z : a1[i]? with
  | none => simp
  | some s0 =>
    have h := (List.getElem?_eq_some_iff.mp z).1
    rcases s0 with _ | d | ⟨t, l | ⟨C, fs⟩⟩ <;> rcases s with _ | d2 | ⟨_ | t2, l2 | ⟨C2, fs2⟩⟩ <;> simp [stFK, setK, h]
theorem w_fn {n : Nat} {b : M Out} {as : List Sl} {Q : Sl → List Sl → Prop} : PostF (fnM n b) as Q = unK as n fun l => Post b l fun o a' => finK o as a' Q := by
  rw [p_fn]; rfl
theorem w_mk {C : Addr} {fm : FM} {as : List Sl} {Q : Sl → List Sl → Prop} : PostF (mkM C fm) as Q = frsK as fun _ => PostF fm (.ow (some 0) (.ins C []) :: as) fun r bs => mkK r bs as Q := by
  unfold frsK
  cases h : frs as with
  | none =>
    rw [k_no]
    apply propext
    unfold PostF mkM
    rw [h]
    constructor
    · rintro ⟨r, a', e, q⟩; cases e
    · exact False.elim
  | some ds =>
    rw [k_some, p_mk (by rw [h]; rfl)]
    rfl
theorem w_arg {n j : Nat} {π : List D → Option (List D)} {fm : FM} {as : List Sl} {Q : Sl → List Sl → Prop} : PostF (argM n j π fm) as Q = (as.length = n + j ∧ splK n as fun l1 l2 => frsK l2 fun ds => Get (π ds) fun d2 => ctgK 0 l1 fun l3 => apK l3 d2 fun l4 => PostF fm l4 fun r bs => retK r fun r' => splK n bs fun b1 _ => ctgK 0 b1 fun b2 => apSK b2 l2 fun l5 => Q r' l5) := by
  rw [p_arg]
  unfold splK frsK ctgK apK apSK retK
  dsimp only
  cases h : frs (as.drop n) with
  | none =>
    rw [k_no]
    simp
  | some ds =>
    rw [k_some]
    rfl
theorem w_any {n : Nat} {fm : Nat → FM} {as : List Sl} {Q : Sl → List Sl → Prop} : PostF (anyM n fm) as Q = (n ≤ as.length ∧ PostF (fm (as.length - n)) as Q) := p_any
theorem w_kw {n j : Nat} {is : List Nat} {fm : FM} {as : List Sl} {Q : Sl → List Sl → Prop} : PostF (kwM n j is fm) as Q = PostF (argM n j (fun ds => some (pick is ds)) fm) as Q := rfl
theorem selR {n j : Nat} {l : List D} {X : List D → Prop} : Get (selD (selRest n j) l) X = (l.length ≤ sizeLine ∧ X [.tup l]) := k_ite
theorem selA {ks : List Str} {n : Nat} {l : List D} {X : List D → Prop} : Get (selD (selAll ks n) l) X = (X (l ++ [.tup []])) := by
  unfold selD
  rw [k_ite]
  simp [selAll]
end

/-! ### walks -/
def setQ (a : AS) (i : Nat) (s : Sl) (Q : AS → Prop) : Prop := Q (a.set i s)
def LcK (i : Nat) (t : M Bool) (mm : M D) (l : List D) (a : AS) (R : List D → AS → Prop) : Prop := ∃ acc a', lcM i t mm l [] a = some (acc, a') ∧ R acc a'
def stepK (o : Out) (a : AS) (I : AS → Prop) (Q : Out → AS → Prop) : Prop := match o with
  | .nx => I a
  | .ct => I a
  | .bk => Q .nx a
  | .rt r => Q (.rt r) a
section
variable {a : AS} {i : Nat} {s x : Sl} {Q : AS → Prop}
theorem sQ_0 {l : AS} : setQ (x :: l) 0 s Q = Q (s :: l) := rfl
theorem sQ_s {l : AS} : setQ (x :: l) (i + 1) s Q = setQ l i s fun l' => Q (x :: l') := rfl
theorem st_nx {I : AS → Prop} {R : Out → AS → Prop} : stepK .nx a I R = I a := rfl
theorem st_ct {I : AS → Prop} {R : Out → AS → Prop} : stepK .ct a I R = I a := rfl
theorem st_bk {I : AS → Prop} {R : Out → AS → Prop} : stepK .bk a I R = R .nx a := rfl
theorem st_rt {I : AS → Prop} {R : Out → AS → Prop} : stepK (.rt s) a I R = R (.rt s) a := rfl
theorem cs_un : (calmS (some .un) = true) = True := by simp [calmS]
theorem cs_fr {d : D} : (calmS (some (.fr d)) = true) = True := by simp [calmS]
theorem w_lc {mi : M (List D)} {t : M Bool} {mm : M D} {Q : Sl → AS → Prop} : Post (mLc mi i t mm) a Q = Post mi a fun l a1 => getK a1 i fun s => (calmS (some s) = true ∧ l.length ≤ sizeLine) ∧ setQ a1 i .un fun a2 => LcK i t mm l a2 fun acc a3 => setQ a3 i s (Q (.ow none (.lst acc))) := by
  rw [p_lc]
  congr
  funext l a1
  unfold getK setQ LcK
  apply propext
  constructor
  · rintro ⟨⟨h1, h2⟩, acc, a2, s, e, es, q⟩
    exact ⟨s, es, ⟨by rw [← es]; exact h1, h2⟩, acc, a2, e, q⟩
  · rintro ⟨s, es, ⟨h1, h2⟩, acc, a2, e, q⟩
    exact ⟨⟨by rw [es]; exact h1, h2⟩, acc, a2, s, e, es, q⟩
theorem LcK.inv {t : M Bool} {mm : M D} {l : List D} {R : List D → AS → Prop} (I : Nat → List D → AS → Prop) (h0 : I 0 [] a)
    (hs : ∀ k d acc a, l[k]? = some d → I k acc a → setQ a i (.fr d) fun a0 => Post t a0 fun c a1 => if c = true then Post mm a1 fun y a2 => setQ a2 i .un (I (k + 1) (acc ++ [y])) else setQ a1 i .un (I (k + 1) acc))
    (hd : ∀ acc a', I l.length acc a' → R acc a') : LcK i t mm l a R := by
  obtain ⟨acc, a', e, h⟩ := p_lcM (i := i) (t := t) (mm := mm) I h0 hs
  exact ⟨acc, a', e, hd acc a' h⟩
theorem for_inv {g : MG} {b : M Out} {l : List D} {Q : Out → AS → Prop} (I : Nat → AS → Prop) (h0 : I 0 a)
    (hs : ∀ i d a, l[i]? = some d → I i a → Get (g d a) fun a1 => Post b a1 fun o a2 => stepK o a2 (I (i + 1)) Q) (hd : ∀ a, I l.length a → Q .nx a) : Post (forM g b l) a Q := by
  have key : ∀ (l' : List D) (k : Nat) (a : AS), (∀ j, l'[j]? = l[k + j]?) → k + l'.length = l.length → I k a → Post (forM g b l') a Q := by
    intro l'
    induction l' with
    | nil =>
      intro k a _ hl hk
      refine ⟨.nx, a, rfl, hd a ?_⟩
      have : k = l.length := by simpa using hl
      rw [← this]; exact hk
    | cons d ds ih =>
      intro k a hj hl hk
      have h0 : l[k]? = some d := by have := hj 0; simpa using this.symm
      obtain ⟨a1, e1, o, a2, e2, ho⟩ := hs k d a h0 hk
      have next : I (k + 1) a2 → Post (forM g b ds) a2 Q := fun h => ih (k + 1) a2 (fun j => by
        have := hj (j + 1)
        simp only [List.getElem?_cons_succ] at this
        rw [this]; congr 1; omega) (by simp at hl; omega) h
      cases o with
      | nx =>
        obtain ⟨r, a3, e3, q⟩ := next ho
        exact ⟨r, a3, by simp only [forM, e1, e2, e3], q⟩
      | ct =>
        obtain ⟨r, a3, e3, q⟩ := next ho
        exact ⟨r, a3, by simp only [forM, e1, e2, e3], q⟩
      | bk => exact ⟨_, _, by simp only [forM, e1, e2], ho⟩
      | rt r => exact ⟨_, _, by simp only [forM, e1, e2], ho⟩
  exact key l 0 a (fun j => by simp) (by simp) h0
end

/-! ### operators by data -/
section
variable {Q : D → Prop} {S : Sl → Prop} {B : Bool → Prop} {i j k : Int} {l l' : List D} {x y z u : D} {s t : Str} {b : Bool} {a : AS} {n : Nat}
theorem g_ixt : Get (idxD (.tup l) (.int k)) Q = Get (L2.atI l k) Q := rfl
theorem g_ixl : Get (idxD (.lst l) (.int k)) Q = Get (L2.atI l k) Q := rfl
theorem g_ixs : Get (idxD (.scr l) (.int k)) Q = Get (L2.atI l k) Q := rfl
theorem at_0 : Get (L2.atI (x :: l) 0) Q = Q x := by
  have : L2.atI (x :: l) 0 = some x := L2.atI_nat (j := 0) rfl
  rw [this, k_some]
theorem at_1 : Get (L2.atI (x :: y :: l) 1) Q = Q y := by
  have : L2.atI (x :: y :: l) 1 = some y := L2.atI_nat (j := 1) rfl
  rw [this, k_some]
theorem at_2 : Get (L2.atI (x :: y :: z :: l) 2) Q = Q z := by
  have : L2.atI (x :: y :: z :: l) 2 = some z := L2.atI_nat (j := 2) rfl
  rw [this, k_some]
theorem at_3 : Get (L2.atI (x :: y :: z :: u :: l) 3) Q = Q u := by
  have : L2.atI (x :: y :: z :: u :: l) 3 = some u := L2.atI_nat (j := 3) rfl
  rw [this, k_some]
theorem ix_lit {n m : Nat} {X : Nat → Prop} (h : m < n) : Get (ixN n (m : Int)) X = X m := by
  have : ixN n (m : Int) = some m := by unfold ixN; rw [if_pos (by omega), if_pos (by omega)]; simp
  rw [this, k_some]
theorem ix_0 {X : Nat → Prop} : Get (ixN (x :: l).length 0) X = X 0 := ix_lit (m := 0) (by simp)
theorem ix_1 {X : Nat → Prop} : Get (ixN (x :: y :: l).length 1) X = X 1 := ix_lit (m := 1) (by simp)
theorem ix_2 {X : Nat → Prop} : Get (ixN (x :: y :: z :: l).length 2) X = X 2 := ix_lit (m := 2) (by simp)
theorem g_addi : Get (addD (.int i) (.int j)) S = S (.fr (.int (i + j))) := k_some
theorem g_adds : Get (addD (.str s) (.str t)) S = (s.length + t.length ≤ sizeLine ∧ S (.fr (.str (s ++ t)))) := k_ite
theorem g_addt : Get (addD (.tup l) (.tup l')) S = (l.length + l'.length ≤ sizeLine ∧ S (.fr (.tup (l ++ l')))) := k_ite
theorem g_addl : Get (addD (.lst l) (.lst l')) S = (l.length + l'.length ≤ sizeLine ∧ S (.ow none (.lst (l ++ l')))) := k_ite
theorem g_muli : Get (mulD (.int i) (.int j)) S = ((i.natAbs < 2 ^ 1000 ∧ j.natAbs < 2 ^ 1000) ∧ S (.fr (.int (i * j)))) := k_ite
theorem g_mult : Get (mulD (.tup l) (.int k)) S = ((l ≠ [] ∧ 2 ≤ k ∧ k ≤ 1000 ∧ l.length ≤ 1000) ∧ S (.fr (.tup (repD k.toNat l)))) := k_ite
theorem g_mull : Get (mulD (.lst l) (.int k)) S = ((-1000000 ≤ k ∧ k ≤ 1000000 ∧ l.length * k.toNat ≤ sizeLine) ∧ S (.ow none (.lst (repD k.toNat l)))) := k_ite
theorem g_sub : Get (subD (.int i) (.int j)) Q = Q (.int (i - j)) := by
  show Get (if True then some (D.int (i - j)) else none) Q = _
  rw [k_ite, true_and]
theorem g_div : Get (divD (.int i) (.int j)) Q = ((0 < j ∧ j < 1073741824) ∧ Q (.int (i / j))) := k_ite
theorem g_mod : Get (modD (.int i) (.int j)) Q = (0 < j ∧ Q (.int (i % j))) := k_ite
theorem g_pow : Get (powD (.int i) (.int j)) Q = ((0 ≤ j ∧ j ≤ 1000000 ∧ i.natAbs < 2 ^ 64) ∧ Q (.int (i ^ j.toNat))) := k_ite
theorem g_bD {f : D → D → Option Bool} : Get (bD f x y) Q = Get (f x y) fun b => Q (.bl b) := by
  unfold bD
  cases f x y with
  | none => exact k_no.trans k_no.symm
  | some b =>
    show Get (some (D.bl b)) Q = Get (some b) fun b => Q (.bl b)
    rw [k_some, k_some]
theorem g_lt : Get (ltD (.int i) (.int j)) B = B (decide (i < j)) := k_some
theorem g_le : Get (leD (.int i) (.int j)) B = B (decide (i ≤ j)) := k_some
theorem g_gt : Get (gtD (.int i) (.int j)) B = B (decide (j < i)) := k_some
theorem g_ge : Get (geD (.int i) (.int j)) B = B (decide (j ≤ i)) := k_some
theorem g_neg : Get (negD (.int i)) Q = Q (.int (-i)) := k_some
theorem g_bl : Get (blD (.bl b)) B = B b := k_some
theorem g_int : Get (fnInt [.int i]) S = S (.fr (.int i)) := k_some
theorem g_lent : Get (fnLen [.tup l]) S = S (.fr (.int l.length)) := k_some
theorem g_lenl : Get (fnLen [.lst l]) S = S (.fr (.int l.length)) := k_some
theorem g_lens : Get (fnLen [.scr l]) S = S (.fr (.int l.length)) := k_some
theorem g_list : Get (fnList [.tup l]) S = S (.ow none (.lst l)) := k_some
theorem g_lisl : Get (fnList [.lst l]) S = S (.ow none (.lst l)) := k_some
theorem g_tupt : Get (fnTuple [.tup l]) S = S (.fr (.tup l)) := k_some
theorem g_tupl : Get (fnTuple [.lst l]) S = S (.fr (.tup l)) := k_some
theorem g_max : Get (fnMax2 [.int i, .int j]) S = S (.fr (.int (if j > i then j else i))) := k_some
theorem g_min : Get (fnMin2 [.int i, .int j]) S = S (.fr (.int (if j < i then j else i))) := k_some
theorem g_itt {X : List D → Prop} : Get (itemsD (.tup l)) X = X l := k_some
theorem g_itl {X : List D → Prop} : Get (itemsD (.lst l)) X = X l := k_some
theorem g_its {X : List D → Prop} : Get (itemsD (.scr l)) X = X l := k_some
theorem g_slt {lo hi : Option Int} : Get (sliceD (.tup l) lo hi) S = S (.fr (.tup (L3.cut l lo hi))) := k_some
theorem g_sll {lo hi : Option Int} : Get (sliceD (.lst l) lo hi) S = S (.ow none (.lst (L3.cut l lo hi))) := k_some
theorem g_sls {lo hi : Option Int} : Get (sliceD (.scr l) lo hi) S = S (.ow none (.lst (L3.cut l lo hi))) := k_some
theorem g_rng1 {X : List D → Prop} : Get (rng1 (.int j)) X = ((-1000000 ≤ j ∧ j ≤ 1000000) ∧ X (rngD 0 j.toNat)) := k_ite
theorem g_rng2 {X : List D → Prop} : Get (rng2 (.int i) (.int j)) X = (((-1000000 ≤ i ∧ i ≤ 1000000) ∧ -1000000 ≤ j ∧ j ≤ 1000000) ∧ X (rngD i (j - i).toNat)) := k_ite
theorem g_enum {X : List D → Prop} : Get (enumD (.tup l)) X = X (enums 0 l) := k_some
theorem g_nm {n : Nat} {X : AS → Prop} : Get (gNm n x a) X = setK a n (.fr x) X := k_ite
theorem g_tp {n : Nat} {g : List D → AS → Option AS} {X : AS → Prop} : Get (gTp n g (.tup l) a) X = (l.length = n ∧ Get (g l a) X) := by
  show Get (if l.length = n then g l a else none) X = _
  by_cases h : l.length = n
  · rw [if_pos h]; simp [h]
  · rw [if_neg h, k_no]; simp [h]
theorem g_gc {g : MG} {r : List D → AS → Option AS} {X : AS → Prop} : Get (gConsD g r (x :: l) a) X = Get (g x a) fun a1 => Get (r l a1) X := by
  show Get (match g x a with | some a1 => r l a1 | none => none) X = _
  cases g x a with
  | none => exact k_no.trans k_no.symm
  | some a1 =>
    show Get (r l a1) X = Get (some a1) _
    rw [k_some]
theorem g_gn {X : AS → Prop} : Get (gNilD [] a) X = X a := k_some
theorem eqv_some {p q : PyData} : True := trivial

theorem g_isIntD_non : Get (isIntD .non) B = B false := k_some
theorem g_isIntD_bl : Get (isIntD (.bl b)) B = B true := k_some
theorem g_isIntD_int : Get (isIntD (.int i)) B = B true := k_some
theorem g_isIntD_str : Get (isIntD (.str s)) B = B false := k_some
theorem g_isIntD_tup : Get (isIntD (.tup l)) B = B false := k_some
theorem g_isIntD_lst : Get (isIntD (.lst l)) B = B false := k_some
theorem g_isBoolD_non : Get (isBoolD .non) B = B false := k_some
theorem g_isBoolD_bl : Get (isBoolD (.bl b)) B = B true := k_some
theorem g_isBoolD_int : Get (isBoolD (.int i)) B = B false := k_some
theorem g_isBoolD_str : Get (isBoolD (.str s)) B = B false := k_some
theorem g_isBoolD_tup : Get (isBoolD (.tup l)) B = B false := k_some
theorem g_isBoolD_lst : Get (isBoolD (.lst l)) B = B false := k_some
theorem g_isTupD_non : Get (isTupD .non) B = B false := k_some
theorem g_isTupD_bl : Get (isTupD (.bl b)) B = B false := k_some
theorem g_isTupD_int : Get (isTupD (.int i)) B = B false := k_some
theorem g_isTupD_str : Get (isTupD (.str s)) B = B false := k_some
theorem g_isTupD_tup : Get (isTupD (.tup l)) B = B true := k_some
theorem g_isTupD_lst : Get (isTupD (.lst l)) B = B false := k_some
theorem g_isStrD_non : Get (isStrD .non) B = B false := k_some
theorem g_isStrD_bl : Get (isStrD (.bl b)) B = B false := k_some
theorem g_isStrD_int : Get (isStrD (.int i)) B = B false := k_some
theorem g_isStrD_str : Get (isStrD (.str s)) B = B true := k_some
theorem g_isStrD_tup : Get (isStrD (.tup l)) B = B false := k_some
theorem g_isStrD_lst : Get (isStrD (.lst l)) B = B false := k_some
theorem g_own_non {sb : Addr → Option Bool} : Get (isOwn sb .non) B = B false := k_some
theorem g_own_bl {sb : Addr → Option Bool} : Get (isOwn sb (.bl b)) B = B false := k_some
theorem g_own_int {sb : Addr → Option Bool} : Get (isOwn sb (.int i)) B = B false := k_some
theorem g_own_str {sb : Addr → Option Bool} : Get (isOwn sb (.str s)) B = B false := k_some
theorem g_own_tup {sb : Addr → Option Bool} : Get (isOwn sb (.tup l)) B = B false := k_some
theorem g_own_lst {sb : Addr → Option Bool} : Get (isOwn sb (.lst l)) B = B false := k_some
theorem g_own_ins {C : Addr} {fs : List (Str × D)} : Get (isOwn (sub1 C) (.ins C fs)) B = B true := by
  show Get (if C = C then some true else none) B = _
  rw [if_pos rfl, k_some]
theorem isN_non : isND .non = true := rfl
theorem isN_bl : isND (.bl b) = false := rfl
theorem isN_int : isND (.int i) = false := rfl
theorem isN_str : isND (.str s) = false := rfl
theorem isN_tup : isND (.tup l) = false := rfl
theorem isN_lst : isND (.lst l) = false := rfl
theorem eq_ii : eqD (.int i) (.int j) = some (decide (i = j)) := by
  show (if SeqAt.shaped (.int i) = true ∧ SeqAt.shaped (.int j) = true then some (PyData.eqv (.int i) (.int j)) else none) = _
  rw [if_pos ⟨rfl, rfl⟩]
  have : PyData.eqv (.int i) (.int j) = decide (i = j) := by
    simp only [PyData.eqv]
    by_cases h : i = j <;> simp [h]
  rw [this]
theorem eq_ss : eqD (.str s) (.str t) = if SeqAt.shaped (.str s) = true ∧ SeqAt.shaped (.str t) = true then some (decide (s = t)) else none := by
  have : PyData.eqv (.str s) (.str t) = decide (s = t) := by
    simp only [PyData.eqv]
    by_cases h : s = t <;> simp [h]
  rw [← this]
  rfl
theorem g_eqi : Get (eqD (.int i) (.int j)) B = B (decide (i = j)) := by rw [eq_ii, k_some]
theorem g_eqs : Get (eqD (.str s) (.str t)) B = ((SeqAt.shaped (.str s) = true ∧ SeqAt.shaped (.str t) = true) ∧ B (decide (s = t))) := by rw [eq_ss, k_ite]
theorem g_nei : Get (neD (.int i) (.int j)) B = B (!decide (i = j)) := by unfold neD; rw [eq_ii]; exact k_some
theorem g_nes : Get (neD (.str s) (.str t)) B = ((SeqAt.shaped (.str s) = true ∧ SeqAt.shaped (.str t) = true) ∧ B (!decide (s = t))) := by
  unfold neD
  rw [eq_ss]
  by_cases h : SeqAt.shaped (.str s) = true ∧ SeqAt.shaped (.str t) = true
  · rw [if_pos h]
    show Get (some (!decide (s = t))) B = _
    rw [k_some]
    exact propext ⟨fun q => ⟨h, q⟩, fun q => q.2⟩
  · rw [if_neg h]
    show Get none B = _
    rw [k_no]
    exact propext ⟨False.elim, fun q => h q.1⟩
end
end L3
end
section
namespace L3
open PySem PySem.Spec PyProof.Rows L2
/-! ### data that is shown without trouble -/
theorem okApp {a b : Str} (h : PyData.strOk a = true) (h2 : PyData.strOk b = true) : PyData.strOk (a ++ b) = true := by
  unfold PyData.strOk at *
  rw [Array.all_eq_true] at *
  intro i hi
  have e : (a ++ b).cps = a.cps ++ b.cps := rfl
  simp only [e] at hi ⊢
  rw [Array.getElem_append]
  split
  · exact h _ _
  · exact h2 _ _
theorem okFrom : ∀ {ts : List Str} {k : Nat} {acc : Str}, PyData.strOk acc = true → (∀ t ∈ ts, PyData.strOk t = true) → PyData.strOk (textFrom k acc ts) = true
  | [], _, _, h, _ => h
  | t :: ts, k, acc, h, ht => by
    show PyData.strOk (textFrom (k + 1) (acc ++ (if k > 0 then ", " else "" : String) ++ t) ts) = true
    exact okFrom (okApp (okApp h (by split <;> decide +kernel)) (ht t List.mem_cons_self)) fun u hu => ht u (List.mem_cons_of_mem _ hu)
theorem okJoin {sep : Str} (hs : PyData.strOk sep = true) : ∀ {ts : List Str}, (∀ t ∈ ts, PyData.strOk t = true) → PyData.strOk (Str.join sep ts) = true
  | [], _ => (by show PyData.strOk Str.empty = true; decide +kernel)
  | [x], h => h x List.mem_cons_self
  | x :: y :: r, h => okApp (okApp (h x List.mem_cons_self) hs) (okJoin hs fun t ht => h t (List.mem_cons_of_mem _ ht))
theorem okList {ts : List Str} (h : ∀ t ∈ ts, PyData.strOk t = true) : PyData.strOk (listText ts) = true := okApp (okFrom (by decide +kernel) h) (by decide +kernel)
theorem okTuple {ts : List Str} (h : ∀ t ∈ ts, PyData.strOk t = true) : PyData.strOk (tupleText ts) = true := by
  refine okApp (okApp (by decide +kernel) (okJoin (by decide +kernel) h)) ?_
  split <;> decide +kernel
def words : List Str := ["only", "lift", "swap", "head", "pad", "key", "bundle", "put", "take", "undo", "begin", "finish", "twin"]
mutual
/-- small numbers, known words -/
def niceD : D → Bool
  | .non => true
  | .bl _ => true
  | .int i => decide (0 ≤ i ∧ i < 200)
  | .str s => words.contains s
  | .tup l => niceDs l
  | .lst l => niceDs l
  | _ => false
def niceDs : List D → Bool
  | [] => true
  | d :: ds => niceD d && niceDs ds
end
mutual
def dpD : D → Nat
  | .tup l => dpDs l + 1
  | .lst l => dpDs l + 1
  | _ => 0
def dpDs : List D → Nat
  | [] => 0
  | d :: ds => max (dpD d) (dpDs ds)
end
mutual
def blkD : D → Nat
  | .str s => s.cps.size
  | .tup l => blkDs l
  | .lst l => blkDs l
  | _ => 0
def blkDs : List D → Nat
  | [] => 0
  | d :: ds => blkD d + 1 + blkDs ds
end
theorem small_int : ∀ n : Fin 200, (PyData.showable (.int (n.val : Int)) && (PyData.leavesShort 8 (.int (n.val : Int)) && PyData.strOk (PyData.shown (.int (n.val : Int))))) = true := by decide +kernel
theorem word_ok : (words.all fun s => PyData.leavesShort 8 (.str s) && (PyData.strOk (PyData.shown (.str s)) && PyData.strOk s)) = true := by decide +kernel
structure Nice (d : D) (p : PyData) : Prop where
  py : d.py = some p
  sh : p.showable = true
  dp : p.depth = dpD d
  ls : p.leavesShort 8 = true
  bk : p.bulk = blkD d
  nd : p.hasDict = false
  ok : PyData.strOk p.shown = true
  cl : p.canLay0 = true
structure Nices (d : List D) (p : List PyData) : Prop where
  py : D.pys d = some p
  sh : PyData.showableAll p = true
  dp : PyData.depthAll p = dpDs d
  ls : PyData.leavesShortAll 8 p = true
  bk : PyData.bulkAll p = blkDs d
  nd : PyData.hasDictAll p = false
  ok : ∀ t ∈ PyData.shownAll p, PyData.strOk t = true
  cl : PyData.canLayAll0 p = true
mutual
theorem nice_ok : ∀ {d : D}, niceD d = true → ∃ p, Nice d p
  | .non, _ => ⟨.none, rfl, rfl, rfl, rfl, rfl, rfl, by decide +kernel, rfl⟩
  | .bl b, _ => ⟨.bool b, rfl, rfl, rfl, rfl, rfl, rfl, by cases b <;> decide +kernel, rfl⟩
  | .int i, h => by
    have hi : 0 ≤ i ∧ i < 200 := of_decide_eq_true h
    have e : ((⟨i.toNat, by omega⟩ : Fin 200).val : Int) = i := by simp; omega
    have z := small_int ⟨i.toNat, by omega⟩
    rw [e] at z
    simp only [Bool.and_eq_true] at z
    exact ⟨.int i, rfl, z.1, rfl, z.2.1, rfl, rfl, z.2.2, rfl⟩
  | .str s, h => by
    have hm : s ∈ words := List.contains_iff_mem.mp h
    have z := List.all_eq_true.mp word_ok s hm
    simp only [Bool.and_eq_true] at z
    exact ⟨.str s, rfl, rfl, rfl, z.1, rfl, rfl, z.2.1, z.2.2⟩
  | .tup l, h => by
    obtain ⟨p, n⟩ := nices_ok (show niceDs l = true from h)
    refine ⟨.tuple p, ?_, n.sh, ?_, n.ls, n.bk, n.nd, okTuple n.ok, n.cl⟩
    · show (D.pys l).map PyData.tuple = _
      rw [n.py]; rfl
    · show PyData.depthAll p + 1 = dpDs l + 1
      rw [n.dp]
  | .lst l, h => by
    obtain ⟨p, n⟩ := nices_ok (show niceDs l = true from h)
    refine ⟨.list p, ?_, n.sh, ?_, n.ls, n.bk, n.nd, okList n.ok, n.cl⟩
    · show (D.pys l).map PyData.list = _
      rw [n.py]; rfl
    · show PyData.depthAll p + 1 = dpDs l + 1
      rw [n.dp]
  | .scr _, h => by cases h
  | .ins _ _, h => by cases h
  | .opq _, h => by cases h
  | .ty _, h => by cases h
theorem nices_ok : ∀ {d : List D}, niceDs d = true → ∃ p, Nices d p
  | [], _ => ⟨[], rfl, rfl, rfl, rfl, rfl, rfl, fun t ht => (nomatch ht), rfl⟩
  | d :: ds, h => by
    have h' : niceD d = true ∧ niceDs ds = true := Bool.and_eq_true_iff.mp h
    obtain ⟨p, n⟩ := nice_ok h'.1
    obtain ⟨ps, ns⟩ := nices_ok h'.2
    refine ⟨p :: ps, ?_, ?_, ?_, ?_, ?_, ?_, fun t ht => ?_, ?_⟩
    · simp only [D.pys, n.py, ns.py]
    · simp only [PyData.showableAll, n.sh, ns.sh, Bool.and_self]
    · simp only [PyData.depthAll, dpDs, n.dp, ns.dp]
    · simp only [PyData.leavesShortAll, n.ls, ns.ls, Bool.and_self]
    · simp only [PyData.bulkAll, blkDs, n.bk, ns.bk]
    · simp only [PyData.hasDictAll, n.nd, ns.nd, Bool.or_self]
    · rcases List.mem_cons.mp (show t ∈ p.shown :: PyData.shownAll ps from ht) with e | e
      · rw [e]; exact n.ok
      · exact ns.ok t e
    · simp only [PyData.canLayAll0, n.cl, ns.cl, Bool.and_self]
end
/-- shown, and the text may be compared -/
def Sh (d : D) : Prop := ∃ s, showD d = some s ∧ SeqAt.shaped (.str s) = true
theorem sh_of {d : D} (h : niceD d = true) (h2 : dpD d ≤ 60) (h3 : blkD d ≤ 1000000) : Sh d := by
  obtain ⟨p, n⟩ := nice_ok h
  have hl := PyData.shown_le_bulk 8 (Nat.le_refl _) p n.ls
  rw [n.bk] at hl
  refine ⟨p.shown, ?_, ?_⟩
  · unfold showD
    rw [n.py]
    simp only
    rw [if_pos ⟨n.sh, by rw [n.dp]; exact h2, Nat.le_trans hl (Nat.le_trans (by omega : 10 * blkD d + 8 ≤ 16777216) (Nat.le_refl _)), n.nd⟩]
  · unfold SeqAt.shaped
    rw [show (PyData.str p.shown).canLay0 = PyData.strOk p.shown from rfl, n.ok]
    rfl
/-- == of the same data -/
theorem eq_same {d : D} (h : niceD d = true) (h2 : dpD d ≤ 60) : eqD d d = some true := by
  obtain ⟨p, n⟩ := nice_ok h
  have sh : SeqAt.shaped p = true := by
    unfold SeqAt.shaped
    rw [n.cl, n.dp]
    simp
    omega
  unfold eqD
  rw [n.py]
  simp only
  rw [if_pos ⟨sh, sh⟩, SeqAt.eqv_refl]
  exact n.cl
theorem ne_same {d : D} (h : niceD d = true) (h2 : dpD d ≤ 60) : neD d d = some false := by
  unfold neD
  rw [eq_same h h2]
  rfl
theorem g_repr {d : D} {s : Str} {S : Sl → Prop} (h : showD d = some s) : Get (fnRepr [d]) S = S (.fr (.str s)) := by
  show Get (match showD d with | some s => some (.fr (.str s)) | none => none) S = _
  rw [h]
  exact k_some
end L3
end
section
namespace Law
open PySem PySem.Spec PyProof.Rows L2 L3
def top (i : Nat) : Stmt := PySem.Challenge.pw_wishedtongues_k53_rows_made.main.body.getD i (.Pass ⟨0, 0, 0, 0⟩)
structure Cs where
  mk ::
  Doors : Addr
structure Txt (K : PySem.W.Frag) (mg : Str → Option Value) (Z : Cs) where
  a_l_pot : Addr
  d_l_pot : FuncData
  D_l_pot : FunD K "_law_pot" "_law_pot" (defArgs (top 31)) (defBody (top 31)) (defScope (top 31)) [] [] a_l_pot d_l_pot
  g_l_pot : mg "_law_pot" = some (.ref a_l_pot)
  b_l_pot : Binds K d_l_pot ["cell"] []
  a_l_pick : Addr
  d_l_pick : FuncData
  D_l_pick : FunD K "_law_pick" "_law_pick" (defArgs (top 32)) (defBody (top 32)) (defScope (top 32)) [] [] a_l_pick d_l_pick
  g_l_pick : mg "_law_pick" = some (.ref a_l_pick)
  b_l_pick : Binds K d_l_pick ["pot", "upto"] []
  a_l_drawn_fir : Addr
  d_l_drawn_fir : FuncData
  D_l_drawn_fir : FunD K "_law_drawn_fir" "_law_drawn_fir" (defArgs (top 33)) (defBody (top 33)) (defScope (top 33)) [] [] a_l_drawn_fir d_l_drawn_fir
  g_l_drawn_fir : mg "_law_drawn_fir" = some (.ref a_l_drawn_fir)
  b_l_drawn_fir : Binds K d_l_drawn_fir ["pot", "upto"] []
  a_l_drawn_asks : Addr
  d_l_drawn_asks : FuncData
  D_l_drawn_asks : FunD K "_law_drawn_asks" "_law_drawn_asks" (defArgs (top 34)) (defBody (top 34)) (defScope (top 34)) [] [] a_l_drawn_asks d_l_drawn_asks
  g_l_drawn_asks : mg "_law_drawn_asks" = some (.ref a_l_drawn_asks)
  b_l_drawn_asks : Binds K d_l_drawn_asks ["pot", "size", "upto"] []
  a_l_drawn_gate : Addr
  d_l_drawn_gate : FuncData
  D_l_drawn_gate : FunD K "_law_drawn_gate" "_law_drawn_gate" (defArgs (top 35)) (defBody (top 35)) (defScope (top 35)) [] [] a_l_drawn_gate d_l_drawn_gate
  g_l_drawn_gate : mg "_law_drawn_gate" = some (.ref a_l_drawn_gate)
  b_l_drawn_gate : Binds K d_l_drawn_gate ["pot", "size", "upto"] []
  a_l_drawn_row : Addr
  d_l_drawn_row : FuncData
  D_l_drawn_row : FunD K "_law_drawn_row" "_law_drawn_row" (defArgs (top 36)) (defBody (top 36)) (defScope (top 36)) [] [] a_l_drawn_row d_l_drawn_row
  g_l_drawn_row : mg "_law_drawn_row" = some (.ref a_l_drawn_row)
  b_l_drawn_row : Binds K d_l_drawn_row ["pot", "size", "upto", "much"] []
  a_is_integer : Addr
  d_is_integer : FuncData
  D_is_integer : FunD K "is_integer" "is_integer" (defArgs (top 9)) (defBody (top 9)) (defScope (top 9)) [] [] a_is_integer d_is_integer
  g_is_integer : mg "is_integer" = some (.ref a_is_integer)
  b_is_integer : Binds K d_is_integer ["value"] []
  a_is_tree : Addr
  d_is_tree : FuncData
  D_is_tree : FunD K "is_tree" "is_tree" (defArgs (top 10)) (defBody (top 10)) (defScope (top 10)) [] [] a_is_tree d_is_tree
  g_is_tree : mg "is_tree" = some (.ref a_is_tree)
  b_is_tree : Binds K d_is_tree ["value"] []
  a_need_tree : Addr
  d_need_tree : FuncData
  D_need_tree : FunD K "need_tree" "need_tree" (defArgs (top 11)) (defBody (top 11)) (defScope (top 11)) [] [] a_need_tree d_need_tree
  g_need_tree : mg "need_tree" = some (.ref a_need_tree)
  b_need_tree : Binds K d_need_tree ["tree"] []
  a_is_spot : Addr
  d_is_spot : FuncData
  D_is_spot : FunD K "is_spot" "is_spot" (defArgs (top 20)) (defBody (top 20)) (defScope (top 20)) [] [] a_is_spot d_is_spot
  g_is_spot : mg "is_spot" = some (.ref a_is_spot)
  b_is_spot : Binds K d_is_spot ["tree", "value"] []
  a_is_spots : Addr
  d_is_spots : FuncData
  D_is_spots : FunD K "is_spots" "is_spots" (defArgs (top 21)) (defBody (top 21)) (defScope (top 21)) [] [] a_is_spots d_is_spots
  g_is_spots : mg "is_spots" = some (.ref a_is_spots)
  b_is_spots : Binds K d_is_spots ["tree", "value"] []
  a_is_swaps : Addr
  d_is_swaps : FuncData
  D_is_swaps : FunD K "is_swaps" "is_swaps" (defArgs (top 22)) (defBody (top 22)) (defScope (top 22)) [] [] a_is_swaps d_is_swaps
  g_is_swaps : mg "is_swaps" = some (.ref a_is_swaps)
  b_is_swaps : Binds K d_is_swaps ["tree", "value"] []
  a_locale_there : Addr
  d_locale_there : FuncData
  D_locale_there : FunD K "locale_there" "locale_there" (defArgs (top 12)) (defBody (top 12)) (defScope (top 12)) [] [] a_locale_there d_locale_there
  g_locale_there : mg "locale_there" = some (.ref a_locale_there)
  b_locale_there : Binds K d_locale_there ["tree", "value"] []
  a_wishes_there : Addr
  d_wishes_there : FuncData
  D_wishes_there : FunD K "wishes_there" "wishes_there" (defArgs (top 13)) (defBody (top 13)) (defScope (top 13)) [] [] a_wishes_there d_wishes_there
  g_wishes_there : mg "wishes_there" = some (.ref a_wishes_there)
  b_wishes_there : Binds K d_wishes_there ["tree", "value"] []
  a_is_wishes : Addr
  d_is_wishes : FuncData
  D_is_wishes : FunD K "is_wishes" "is_wishes" (defArgs (top 15)) (defBody (top 15)) (defScope (top 15)) [] [] a_is_wishes d_is_wishes
  g_is_wishes : mg "is_wishes" = some (.ref a_is_wishes)
  b_is_wishes : Binds K d_is_wishes ["tree", "value"] []
  a_door_fits : Addr
  d_door_fits : FuncData
  D_door_fits : FunD K "door_fits" "door_fits" (defArgs (top 23)) (defBody (top 23)) (defScope (top 23)) [] [] a_door_fits d_door_fits
  g_door_fits : mg "door_fits" = some (.ref a_door_fits)
  b_door_fits : Binds K d_door_fits ["tree", "value"] []
  a_Doors_init : Addr
  d_Doors_init : FuncData
  D_Doors_init : FunD K "__init__" "Doors.__init__" (defArgs (inC (top 29) 0)) (defBody (inC (top 29) 0)) (defScope (inC (top 29) 0)) [] [] a_Doors_init d_Doors_init
  a_Doors_of : Addr
  d_Doors_of : FuncData
  D_Doors_of : FunD K "of" "Doors.of" (defArgs (inC (top 29) 1)) (defBody (inC (top 29) 1)) (defScope (inC (top 29) 1)) [] [] a_Doors_of d_Doors_of
  b_Doors_of : Binds K d_Doors_of ["tree", "doors"] []
  a_Doors_need_like : Addr
  d_Doors_need_like : FuncData
  D_Doors_need_like : FunD K "need_like" "Doors.need_like" (defArgs (inC (top 29) 10)) (defBody (inC (top 29) 10)) (defScope (inC (top 29) 10)) [] [] a_Doors_need_like d_Doors_need_like
  b_Doors_need_like : Binds K d_Doors_need_like ["self", "other"] []
  a_Doors_add : Addr
  d_Doors_add : FuncData
  D_Doors_add : FunD K "__add__" "Doors.__add__" (defArgs (inC (top 29) 8)) (defBody (inC (top 29) 8)) (defScope (inC (top 29) 8)) [] [] a_Doors_add d_Doors_add
  b_Doors_add : Binds K d_Doors_add ["self", "other"] []
  a_l_spelled : Addr
  d_l_spelled : FuncData
  D_l_spelled : FunD K "_law_spelled" "_law_spelled" (defArgs (top 37)) (defBody (top 37)) (defScope (top 37)) [] [] a_l_spelled d_l_spelled
  g_l_spelled : mg "_law_spelled" = some (.ref a_l_spelled)
  b_l_spelled : Binds K d_l_spelled ["fir", "gates"] []
  a_Doors_behind : Addr
  d_Doors_behind : FuncData
  D_Doors_behind : FunD K "behind" "Doors.behind" (defArgs (inC (top 29) 13)) (defBody (inC (top 29) 13)) (defScope (inC (top 29) 13)) [] [] a_Doors_behind d_Doors_behind
  b_Doors_behind : Binds K d_Doors_behind ["self", "door"] []
  a_l_made : Addr
  d_l_made : FuncData
  D_l_made : FunD K "_law_made" "_law_made" (defArgs (top 38)) (defBody (top 38)) (defScope (top 38)) [] [] a_l_made d_l_made
  g_l_made : mg "_law_made" = some (.ref a_l_made)
  b_l_made : Binds K d_l_made ["pot", "fir", "gates"] []
  a_Doors_len : Addr
  d_Doors_len : FuncData
  D_Doors_len : FunD K "__len__" "Doors.__len__" (defArgs (inC (top 29) 5)) (defBody (inC (top 29) 5)) (defScope (inC (top 29) 5)) [] [] a_Doors_len d_Doors_len
  b_Doors_len : Binds K d_Doors_len ["self"] []
  a_Doors_tree : Addr
  d_Doors_tree : FuncData
  D_Doors_tree : FunD K "tree" "Doors.tree" (defArgs (inC (top 29) 2)) (defBody (inC (top 29) 2)) (defScope (inC (top 29) 2)) [] [] a_Doors_tree d_Doors_tree
  b_Doors_tree : Binds K d_Doors_tree ["self"] []
  a_Doors_doors : Addr
  d_Doors_doors : FuncData
  D_Doors_doors : FunD K "doors" "Doors.doors" (defArgs (inC (top 29) 3)) (defBody (inC (top 29) 3)) (defScope (inC (top 29) 3)) [] [] a_Doors_doors d_Doors_doors
  b_Doors_doors : Binds K d_Doors_doors ["self"] []
  a_Doors_getitem : Addr
  d_Doors_getitem : FuncData
  D_Doors_getitem : FunD K "__getitem__" "Doors.__getitem__" (defArgs (inC (top 29) 7)) (defBody (inC (top 29) 7)) (defScope (inC (top 29) 7)) [] [] a_Doors_getitem d_Doors_getitem
  b_Doors_getitem : Binds K d_Doors_getitem ["self", "k"] []
  a_l_fields : Addr
  d_l_fields : FuncData
  D_l_fields : FunD K "_law_fields" "_law_fields" (defArgs (top 39)) (defBody (top 39)) (defScope (top 39)) [] [] a_l_fields d_l_fields
  g_l_fields : mg "_law_fields" = some (.ref a_l_fields)
  b_l_fields : Binds K d_l_fields ["made", "fir", "gates"] []
  a_l_grown : Addr
  d_l_grown : FuncData
  D_l_grown : FunD K "_law_grown" "_law_grown" (defArgs (top 40)) (defBody (top 40)) (defScope (top 40)) [] [] a_l_grown d_l_grown
  g_l_grown : mg "_law_grown" = some (.ref a_l_grown)
  b_l_grown : Binds K d_l_grown ["one", "two", "fir", "gates", "more", "gate"] []
  a_law : Addr
  d_law : FuncData
  D_law : FunD K "law" "law" (defArgs (top 41)) (defBody (top 41)) (defScope (top 41)) [] [] a_law d_law
  g_law : mg "law" = some (.ref a_law)
  b_law : Binds K d_law ["script"] []
  p_Doors_of : Addr
  p_Doors_tree : Addr
  p_Doors_doors : Addr
  c_Doors : Cls K Z.Doors
  noat_Doors_ground : NoAttr K Z.Doors "ground"
  noat_Doors_gates : NoAttr K Z.Doors "gates"
  mk_Doors : Mk K Z.Doors a_Doors_init
  g_Doors : mg "Doors" = some (.ref Z.Doors)
  nb_Doors : NotB K Z.Doors
  isi_Doors : IsiC K Z.Doors
  kit_Doors : PySem.W.kitOne K (.ref Z.Doors) (.ref Z.Doors) = some true
  meth_Doors_need_like : Meth K Z.Doors "need_like" a_Doors_need_like
  sm_Doors_of : SMet K Z.Doors (.type "type") "of" p_Doors_of a_Doors_of
  sf_Doors : PySem.W.selfFirst K Z.Doors = true
  dun_Doors_add : Dun K Z.Doors "__add__" a_Doors_add
  noin_Doors_Add : noIn K Z.Doors .Add = true
  meth_Doors_behind : Meth K Z.Doors "behind" a_Doors_behind
  prop_Doors_tree : PropOf K Z.Doors "tree" p_Doors_tree a_Doors_tree
  prop_Doors_doors : PropOf K Z.Doors "doors" p_Doors_doors a_Doors_doors
  dun_Doors_len : Dun K Z.Doors "__len__" a_Doors_len
  dun_Doors_getitem : Dun K Z.Doors "__getitem__" a_Doors_getitem
  si_Doors_of : SInst K Z.Doors "of" p_Doors_of a_Doors_of
  n_abs : mg "abs" = none
  n_bool : mg "bool" = none
  n_enumerate : mg "enumerate" = none
  n_int : mg "int" = none
  n_isinstance : mg "isinstance" = none
  n_len : mg "len" = none
  n_list : mg "list" = none
  n_max : mg "max" = none
  n_min : mg "min" = none
  n_range : mg "range" = none
  n_repr : mg "repr" = none
  n_set : mg "set" = none
  n_sorted : mg "sorted" = none
  n_str : mg "str" = none
  n_sum : mg "sum" = none
  n_tuple : mg "tuple" = none
  n_zip : mg "zip" = none
variable {P : Program} {w : World} {K : PySem.W.Frag} {mg : Str → Option Value} {base : Heap} {Z : Cs}
theorem sc_l_pot : FnScope ["cell", "rest"] ["cell"] (defScope (top 31)) := ⟨rfl, rfl, rfl, by decide +kernel, rfl, by decide +kernel, by decide +kernel⟩
def b_l_pot (Z : Cs) : M Out := (mSeq (mSet 1 (mFr (ret (.int 0))))
  (mSeq (mIf (m2 geD (mVar 0) (m2 powD (ret (.int 10)) (ret (.int 18)))) (mSet 1 (mFr (m2 subD (mVar 0) (m2 powD (ret (.int 10)) (ret (.int 18)))))) (ret .nx))
  (mRet (mLst (mCons (mVar 1) (mCons (m2 modD (mFrz (mCal fnInt (mCons (mVar 0) mNil))) (ret (.int 999999999999999989))) (mCons (ret (.int 0)) mNil)))))))
def f_l_pot (Z : Cs) : FM := fnM 1 (b_l_pot Z)
theorem ok_l_pot (T : Txt K mg Z) : FnG P w K mg base (L2.CX P w) 1 T.a_l_pot T.d_l_pot ["cell"] (spM K 1 (f_l_pot Z)) :=
  have S := sc_l_pot
  def_ok T.D_l_pot S rfl fun cdv A outer s H E ρ hgd hr tk hp =>
  (vss_cons (vs_set (i := 1) S.nd rfl (Or.inl rfl) (ve_fr vd_int))
  (vss_cons (vs_if (vt_ge (vd_var (pv 0)) (vd_pow vd_int vd_int)) (vss_one (vs_set (i := 1) S.nd rfl (Or.inl rfl) (ve_fr (vd_sub (vd_var (pv 0)) (vd_pow vd_int vd_int))))) vss_nil)
  (vss_one (vs_ret (ve_lst (va_cons (vd_var (pv 1)) (va_cons (vd_mod (vd_frz (ve_int (by rfl) T.n_int (vd_var (pv 0)))) vd_int) (va_cons vd_int va_nil))))))))
theorem sc_l_pick : FnScope ["pot", "upto", "digit", "turn", "mixed"] ["pot", "upto"] (defScope (top 32)) := ⟨rfl, rfl, rfl, by decide +kernel, rfl, by decide +kernel, by decide +kernel⟩
def b_l_pick (Z : Cs) : M Out := (mSeq (mIf (m2 gtD (mV2 idxD 0 (ret (.int 0))) (ret (.int 0))) (mSeq (mSet 2 (mFr (m2 modD (mFrz (mCal fnInt (mCons (mV2 idxD 0 (ret (.int 0))) mNil))) (mVar 1))))
  (mSeq (mSetI 0 (ret (.int 0)) (m2 divD (mV2 idxD 0 (ret (.int 0))) (mVar 1)))
  (mRet (mMove 2)))) (ret .nx))
  (mSeq (mSetI 0 (ret (.int 2)) (mFrz (m2 addD (mV2 idxD 0 (ret (.int 2))) (ret (.int 1)))))
  (mSeq (mSet 3 (mFr (mV2 idxD 0 (ret (.int 2)))))
  (mSeq (mSet 4 (m2 addD (mFrz (m2 mulD (mFrz (m2 addD (mV2 idxD 0 (ret (.int 1))) (ret (.int 61)))) (mFrz (m2 addD (mFrz (m2 addD (mFrz (m2 mulD (mFrz (m2 mulD (ret (.int 43)) (mVar 3))) (mVar 3))) (mFrz (m2 mulD (ret (.int 130363)) (mVar 3))))) (ret (.int 11)))))) (mFrz (m2 mulD (ret (.int 23)) (mVar 3)))))
  (mSeq (mSet 4 (mFr (m2 divD (m2 modD (mFrz (mCal fnInt (mCons (mFrz (m2 addD (mFrz (m2 mulD (mVar 4) (mVar 4))) (mFrz (m2 mulD (ret (.int 524287)) (mVar 4))))) mNil))) (ret (.int 1000000000000000003))) (ret (.int 1021)))))
  (mSeq (mSet 4 (mFr (m2 divD (m2 modD (mFrz (mCal fnInt (mCons (mFrz (m2 addD (mFrz (m2 addD (mFrz (m2 mulD (mVar 4) (mVar 4))) (mFrz (m2 mulD (ret (.int 8191)) (mVar 4))))) (mVar 3))) mNil))) (ret (.int 2147483629))) (ret (.int 32)))))
  (mRet (mFr (m2 modD (mFrz (mCal fnInt (mCons (mVar 4) mNil))) (mVar 1))))))))))
def f_l_pick (Z : Cs) : FM := fnM 3 (b_l_pick Z)
theorem ok_l_pick (T : Txt K mg Z) : FnG P w K mg base (L2.CX P w) 1 T.a_l_pick T.d_l_pick ["pot", "upto"] (spM K 2 (f_l_pick Z)) :=
  have S := sc_l_pick
  def_ok T.D_l_pick S rfl fun cdv A outer s H E ρ hgd hr tk hp =>
  (vss_cons (vs_if (vt_gt (vd_ixV 0 (pv 0) vd_int) vd_int) (vss_cons (vs_set (i := 2) S.nd rfl (Or.inl rfl) (ve_fr (vd_mod (vd_frz (ve_int (by rfl) T.n_int (vd_ixV 0 (pv 0) vd_int))) (vd_var (pv 1)))))
  (vss_cons (vs_setI 0 (pv 0) vd_int (vd_div (vd_ixV 0 (pv 0) vd_int) (vd_var (pv 1))) (ps_asg (vd_div (vd_ixV 0 (pv 0) vd_int) (vd_var (pv 1))) (pg_sub (pv 0) vd_int set_list)))
  (vss_one (vs_ret (ve_move (pv 2)))))) vss_nil)
  (vss_cons (vs_setI 0 (pv 0) vd_int (vd_frz (ve_add (vd_ixV 0 (pv 0) vd_int) vd_int)) (ps_asg (vd_frz (ve_add (vd_ixV 0 (pv 0) vd_int) vd_int)) (pg_sub (pv 0) vd_int set_list)))
  (vss_cons (vs_set (i := 3) S.nd rfl (Or.inl rfl) (ve_fr (vd_ixV 0 (pv 0) vd_int)))
  (vss_cons (vs_set (i := 4) S.nd rfl (Or.inl rfl) (ve_add (vd_frz (ve_mul (vd_frz (ve_add (vd_ixV 0 (pv 0) vd_int) vd_int)) (vd_frz (ve_add (vd_frz (ve_add (vd_frz (ve_mul (vd_frz (ve_mul vd_int (vd_var (pv 3)))) (vd_var (pv 3)))) (vd_frz (ve_mul vd_int (vd_var (pv 3)))))) vd_int)))) (vd_frz (ve_mul vd_int (vd_var (pv 3))))))
  (vss_cons (vs_set (i := 4) S.nd rfl (Or.inl rfl) (ve_fr (vd_div (vd_mod (vd_frz (ve_int (by rfl) T.n_int (vd_frz (ve_add (vd_frz (ve_mul (vd_var (pv 4)) (vd_var (pv 4)))) (vd_frz (ve_mul vd_int (vd_var (pv 4)))))))) vd_int) vd_int)))
  (vss_cons (vs_set (i := 4) S.nd rfl (Or.inl rfl) (ve_fr (vd_div (vd_mod (vd_frz (ve_int (by rfl) T.n_int (vd_frz (ve_add (vd_frz (ve_add (vd_frz (ve_mul (vd_var (pv 4)) (vd_var (pv 4)))) (vd_frz (ve_mul vd_int (vd_var (pv 4)))))) (vd_var (pv 3)))))) vd_int) vd_int)))
  (vss_one (vs_ret (ve_fr (vd_mod (vd_frz (ve_int (by rfl) T.n_int (vd_var (pv 4)))) (vd_var (pv 1))))))))))))
theorem sc_l_drawn_fir : FnScope ["pot", "upto", "size", "shape", "fir", "k", "above"] ["pot", "upto"] (defScope (top 33)) := ⟨rfl, rfl, rfl, by decide +kernel, rfl, by decide +kernel, by decide +kernel⟩
def b_l_drawn_fir (Z : Cs) : M Out := (mSeq (mSet 2 (m2 addD (ret (.int 1)) (mFrz (mCl (f_l_pick Z) (gB 0 (gV (mVar 1) gNil)) []))))
  (mSeq (mSet 3 (mCl (f_l_pick Z) (gB 0 (gV (ret (.int 6)) gNil)) []))
  (mSeq (mSet 4 (mLst (mCons (ret .non) mNil)))
  (mSeq (mFor (m2 rng2 (ret (.int 1)) (mVar 2)) (gNm 5) (mSeq (mSet 6 (mCl (f_l_pick Z) (gB 0 (gV (mVar 5) gNil)) []))
  (mSeq (mIf (m2 eqD (mVar 3) (ret (.int 0))) (mSet 6 (mFr (ret (.int 0)))) (ret .nx))
  (mSeq (mIf (m2 eqD (mVar 3) (ret (.int 1))) (mSet 6 (mFr (m2 subD (mVar 5) (ret (.int 1))))) (ret .nx))
  (mSeq (mIf (m2 eqD (mVar 3) (ret (.int 2))) (mSet 6 (mCal fnMax2 (mCons (ret (.int 0)) (mCons (m2 subD (mVar 5) (ret (.int 2))) mNil)))) (ret .nx))
  (mDrop (mApp 4 (mVar 6))))))))
  (mRet (mCal fnTuple (mCons (mVar 4) mNil)))))))
def f_l_drawn_fir (Z : Cs) : FM := fnM 5 (b_l_drawn_fir Z)
theorem ok_l_drawn_fir (T : Txt K mg Z) : FnG P w K mg base (L2.CX P w) 2 T.a_l_drawn_fir T.d_l_drawn_fir ["pot", "upto"] (spM K 2 (f_l_drawn_fir Z)) :=
  have S := sc_l_drawn_fir
  def_ok T.D_l_drawn_fir S rfl fun cdv A outer s H E ρ hgd hr tk hp =>
  (vss_cons (vs_set (i := 2) S.nd rfl (Or.inl rfl) (ve_add vd_int (vd_frz (ve_call (l := 2) ((ok_l_pick T).mono (by decide)) hgd hr (by rfl) T.g_l_pick T.D_l_pick.kp T.b_l_pick .nil (fun _ => .nil) tk (vag_b 0 (pv 0) (vag_v (vd_var (pv 1)) vag_nil)) (agl_b (agl_v agl_nil))))))
  (vss_cons (vs_set (i := 3) S.nd rfl (Or.inl rfl) (ve_call (l := 2) ((ok_l_pick T).mono (by decide)) hgd hr (by rfl) T.g_l_pick T.D_l_pick.kp T.b_l_pick .nil (fun _ => .nil) tk (vag_b 0 (pv 0) (vag_v vd_int vag_nil)) (agl_b (agl_v agl_nil))))
  (vss_cons (vs_set (i := 4) S.nd rfl (Or.inl rfl) (ve_lst (va_cons vd_non va_nil)))
  (vss_cons (vs_for hp rfl (vi_range2 (by rfl) T.n_range vd_int (vd_var (pv 2))) (vg_name (i := 5) S.nd rfl (Or.inl rfl)) (vss_cons (vs_set (i := 6) S.nd rfl (Or.inl rfl) (ve_call (l := 2) ((ok_l_pick T).mono (by decide)) hgd hr (by rfl) T.g_l_pick T.D_l_pick.kp T.b_l_pick .nil (fun _ => .nil) tk (vag_b 0 (pv 0) (vag_v (vd_var (pv 5)) vag_nil)) (agl_b (agl_v agl_nil))))
  (vss_cons (vs_if (vt_eq hr.units (vd_var (pv 3)) vd_int) (vss_one (vs_set (i := 6) S.nd rfl (Or.inl rfl) (ve_fr vd_int))) vss_nil)
  (vss_cons (vs_if (vt_eq hr.units (vd_var (pv 3)) vd_int) (vss_one (vs_set (i := 6) S.nd rfl (Or.inl rfl) (ve_fr (vd_sub (vd_var (pv 5)) vd_int)))) vss_nil)
  (vss_cons (vs_if (vt_eq hr.units (vd_var (pv 3)) vd_int) (vss_one (vs_set (i := 6) S.nd rfl (Or.inl rfl) (ve_max2 rfl (by rfl) T.n_max vd_int (vd_sub (vd_var (pv 5)) vd_int)))) vss_nil)
  (vss_one (vs_expr (ve_app 4 (pv 4) (vd_var (pv 6)) (pe_bm PySem.F.plainAttrs_list PySem.F.slot_list_append PySem.F.type_list_append mt_append (pv 4) (pa_cons (vd_var (pv 6)) pa_nil))))))))))
  (vss_one (vs_ret (ve_tuple (by rfl) T.n_tuple (vd_var (pv 4)))))))))
theorem sc_l_drawn_asks : FnScope ["pot", "size", "upto", "much", "k"] ["pot", "size", "upto"] (defScope (top 34)) := ⟨rfl, rfl, rfl, by decide +kernel, rfl, by decide +kernel, by decide +kernel⟩
def b_l_drawn_asks (Z : Cs) : M Out := (mSeq (mSet 3 (mCl (f_l_pick Z) (gB 0 (gV (mFrz (m2 addD (ret (.int 1)) (m2 idxD (mFrz (mLst (mCons (mFrz (mCal fnMin2 (mCons (ret (.int 3)) (mCons (mVar 2) mNil)))) (mCons (mVar 2) mNil)))) (mFrz (mCl (f_l_pick Z) (gB 0 (gV (ret (.int 2)) gNil)) []))))) gNil)) []))
  (mRet (mCal fnTuple (mCons (mFrz (mLc (m1 rng1 (mVar 3)) 4 (ret true) (mFrz (mCl (f_l_pick Z) (gB 0 (gV (mVar 1) gNil)) [])))) mNil))))
def f_l_drawn_asks (Z : Cs) : FM := fnM 2 (b_l_drawn_asks Z)
theorem ok_l_drawn_asks (T : Txt K mg Z) : FnG P w K mg base (L2.CX P w) 2 T.a_l_drawn_asks T.d_l_drawn_asks ["pot", "size", "upto"] (spM K 3 (f_l_drawn_asks Z)) :=
  have S := sc_l_drawn_asks
  def_ok T.D_l_drawn_asks S rfl fun cdv A outer s H E ρ hgd hr tk hp =>
  (vss_cons (vs_set (i := 3) S.nd rfl (Or.inl rfl) (ve_call (l := 2) ((ok_l_pick T).mono (by decide)) hgd hr (by rfl) T.g_l_pick T.D_l_pick.kp T.b_l_pick .nil (fun _ => .nil) tk (vag_b 0 (pv 0) (vag_v (vd_frz (ve_add vd_int (vd_ix (vd_frz (ve_lst (va_cons (vd_frz (ve_min2 rfl (by rfl) T.n_min vd_int (vd_var (pv 2)))) (va_cons (vd_var (pv 2)) va_nil)))) (vd_frz (ve_call (l := 2) ((ok_l_pick T).mono (by decide)) hgd hr (by rfl) T.g_l_pick T.D_l_pick.kp T.b_l_pick .nil (fun _ => .nil) tk (vag_b 0 (pv 0) (vag_v vd_int vag_nil)) (agl_b (agl_v agl_nil))))))) vag_nil)) (agl_b (agl_v agl_nil))))
  (vss_one (vs_ret (ve_tuple (by rfl) T.n_tuple (vd_frz (ve_lc rfl S.nd (vi_range1 (by rfl) T.n_range (vd_var (pv 3))) (blkOk_by (N := ["pot", "size", "upto", "much", "k"]) (sc := defScope (top 34)) (own := [("k", 4)]) (by decide +kernel)) (fun _ _ _ _ _ => pg_name (i := 4) S.nd rfl (Or.inl rfl)) (fun _ _ _ _ _ => vts_nil) (fun _ _ _ _ _ => (vd_frz (ve_call (l := 2) ((ok_l_pick T).mono (by decide)) hgd hr (by rfl) T.g_l_pick T.D_l_pick.kp T.b_l_pick .nil (fun _ => .nil) takes0 (vag_b 0 (pv 0) (vag_v (vd_var (pv 1)) vag_nil)) (agl_b (agl_v agl_nil)))))))))))
theorem sc_l_drawn_gate : FnScope ["pot", "size", "upto", "word", "often", "marks", "k"] ["pot", "size", "upto"] (defScope (top 35)) := ⟨rfl, rfl, rfl, by decide +kernel, rfl, by decide +kernel, by decide +kernel⟩
def b_l_drawn_gate (Z : Cs) : M Out := (mSeq (mSet 3 (mFr (m2 idxD (mFrz (mLst (mCons (ret (.str "only")) (mCons (ret (.str "lift")) (mCons (ret (.str "swap")) (mCons (ret (.str "head")) (mCons (ret (.str "pad")) mNil))))))) (mFrz (mCl (f_l_pick Z) (gB 0 (gV (ret (.int 5)) gNil)) [])))))
  (mSeq (mIf (mOr (m2 eqD (mVar 3) (ret (.str "head"))) (m2 eqD (mVar 3) (ret (.str "pad")))) (mRet (mFr (mTup (mCons (mVar 3) (mCons (mFrz (mCl (f_l_drawn_asks Z) (gB 0 (gV (mVar 1) (gV (mVar 2) gNil))) [])) mNil))))) (ret .nx))
  (mSeq (mSet 4 (mFr (m2 idxD (mFrz (mLst (mCons (ret (.int 2)) (mCons (ret (.int 3)) (mCons (ret (.int 1)) mNil))))) (mFrz (mCl (f_l_pick Z) (gB 0 (gV (ret (.int 3)) gNil)) [])))))
  (mSeq (mSet 5 (mLc (m1 rng1 (mVar 1)) 6 (m2 eqD (mFrz (mCl (f_l_pick Z) (gB 0 (gV (mVar 4) gNil)) [])) (ret (.int 0))) (mVar 6)))
  (mSeq (mIf (m2 eqD (mVar 3) (ret (.str "swap"))) (mRet (mFr (mTup (mCons (mVar 3) (mCons (mFrz (mCal fnTuple (mCons (mFrz (mLc (mItems (mVar 5)) 6 (ret true) (mTup (mCons (mVar 6) (mCons (mFrz (mCl (f_l_pick Z) (gB 0 (gV (mVar 1) gNil)) [])) mNil))))) mNil))) mNil))))) (ret .nx))
  (mRet (mFr (mTup (mCons (mVar 3) (mCons (mFrz (mCal fnTuple (mCons (mVar 5) mNil))) mNil))))))))))
def f_l_drawn_gate (Z : Cs) : FM := fnM 4 (b_l_drawn_gate Z)
theorem ok_l_drawn_gate (T : Txt K mg Z) : FnG P w K mg base (L2.CX P w) 3 T.a_l_drawn_gate T.d_l_drawn_gate ["pot", "size", "upto"] (spM K 3 (f_l_drawn_gate Z)) :=
  have S := sc_l_drawn_gate
  def_ok T.D_l_drawn_gate S rfl fun cdv A outer s H E ρ hgd hr tk hp =>
  (vss_cons (vs_set (i := 3) S.nd rfl (Or.inl rfl) (ve_fr (vd_ix (vd_frz (ve_lst (va_cons vd_str (va_cons vd_str (va_cons vd_str (va_cons vd_str (va_cons vd_str va_nil))))))) (vd_frz (ve_call (l := 2) ((ok_l_pick T).mono (by decide)) hgd hr (by rfl) T.g_l_pick T.D_l_pick.kp T.b_l_pick .nil (fun _ => .nil) tk (vag_b 0 (pv 0) (vag_v vd_int vag_nil)) (agl_b (agl_v agl_nil)))))))
  (vss_cons (vs_if (vt_w (vw_or (vt_eq hr.units (vd_var (pv 3)) vd_str) (vw_or1 (vt_eq hr.units (vd_var (pv 3)) vd_str)))) (vss_one (vs_ret (ve_fr (vd_tup (va_cons (vd_var (pv 3)) (va_cons (vd_frz (ve_call (l := 3) ((ok_l_drawn_asks T).mono (by decide)) hgd hr (by rfl) T.g_l_drawn_asks T.D_l_drawn_asks.kp T.b_l_drawn_asks .nil (fun _ => .nil) tk (vag_b 0 (pv 0) (vag_v (vd_var (pv 1)) (vag_v (vd_var (pv 2)) vag_nil))) (agl_b (agl_v (agl_v agl_nil))))) va_nil)))))) vss_nil)
  (vss_cons (vs_set (i := 4) S.nd rfl (Or.inr rfl) (ve_fr (vd_ix (vd_frz (ve_lst (va_cons vd_int (va_cons vd_int (va_cons vd_int va_nil))))) (vd_frz (ve_call (l := 2) ((ok_l_pick T).mono (by decide)) hgd hr (by rfl) T.g_l_pick T.D_l_pick.kp T.b_l_pick .nil (fun _ => .nil) tk (vag_b 0 (pv 0) (vag_v vd_int vag_nil)) (agl_b (agl_v agl_nil)))))))
  (vss_cons (vs_setLc rfl S.nd rfl rfl (sw_true rfl rfl rfl (by decide +kernel)) (vi_range1 (by rfl) T.n_range (vd_var (pv 1))) (blkOk_by (N := ["pot", "size", "upto", "word", "often", "marks", "k"]) (sc := defScope (top 35)) (own := [("k", 6)]) (by decide +kernel)) (fun _ _ _ _ _ => pg_name (i := 6) S.nd rfl (Or.inl rfl)) (fun _ _ _ _ _ => (vts_one (vt_eq hr.units (vd_frz (ve_call (l := 2) ((ok_l_pick T).mono (by decide)) hgd hr (by rfl) T.g_l_pick T.D_l_pick.kp T.b_l_pick .nil (fun _ => .nil) takes0 (vag_b 0 (pv 0) (vag_v (vd_var (pv 4)) vag_nil)) (agl_b (agl_v agl_nil)))) vd_int))) (fun _ _ _ _ _ => (vd_var (pv 6))))
  (vss_cons (vs_if (vt_eq hr.units (vd_var (pv 3)) vd_str) (vss_one (vs_ret (ve_fr (vd_tup (va_cons (vd_var (pv 3)) (va_cons (vd_frz (ve_tuple (by rfl) T.n_tuple (vd_frz (ve_lc rfl S.nd (vi_seq (vd_var (pv 5))) (blkOk_by (N := ["pot", "size", "upto", "word", "often", "marks", "k"]) (sc := defScope (top 35)) (own := [("k", 6)]) (by decide +kernel)) (fun _ _ _ _ _ => pg_name (i := 6) S.nd rfl (Or.inl rfl)) (fun _ _ _ _ _ => vts_nil) (fun _ _ _ _ _ => (vd_tup (va_cons (vd_var (pv 6)) (va_cons (vd_frz (ve_call (l := 2) ((ok_l_pick T).mono (by decide)) hgd hr (by rfl) T.g_l_pick T.D_l_pick.kp T.b_l_pick .nil (fun _ => .nil) takes0 (vag_b 0 (pv 0) (vag_v (vd_var (pv 1)) vag_nil)) (agl_b (agl_v agl_nil)))) va_nil)))))))) va_nil)))))) vss_nil)
  (vss_one (vs_ret (ve_fr (vd_tup (va_cons (vd_var (pv 3)) (va_cons (vd_frz (ve_tuple (by rfl) T.n_tuple (vd_var (pv 5)))) va_nil)))))))))))
theorem sc_l_drawn_row : FnScope ["pot", "size", "upto", "much", "k"] ["pot", "size", "upto", "much"] (defScope (top 36)) := ⟨rfl, rfl, rfl, by decide +kernel, rfl, by decide +kernel, by decide +kernel⟩
def b_l_drawn_row (Z : Cs) : M Out := (mRet (mCal fnTuple (mCons (mFrz (mLc (m1 rng1 (mFrz (mCl (f_l_pick Z) (gB 0 (gV (mFrz (m2 addD (mVar 3) (ret (.int 1)))) gNil)) []))) 4 (ret true) (mFrz (mCl (f_l_drawn_gate Z) (gB 0 (gV (mVar 1) (gV (mVar 2) gNil))) [])))) mNil)))
def f_l_drawn_row (Z : Cs) : FM := fnM 1 (b_l_drawn_row Z)
theorem ok_l_drawn_row (T : Txt K mg Z) : FnG P w K mg base (L2.CX P w) 4 T.a_l_drawn_row T.d_l_drawn_row ["pot", "size", "upto", "much"] (spM K 4 (f_l_drawn_row Z)) :=
  have S := sc_l_drawn_row
  def_ok T.D_l_drawn_row S rfl fun cdv A outer s H E ρ hgd hr tk hp =>
  (vss_one (vs_ret (ve_tuple (by rfl) T.n_tuple (vd_frz (ve_lc rfl S.nd (vi_range1 (by rfl) T.n_range (vd_frz (ve_call (l := 2) ((ok_l_pick T).mono (by decide)) hgd hr (by rfl) T.g_l_pick T.D_l_pick.kp T.b_l_pick .nil (fun _ => .nil) tk (vag_b 0 (pv 0) (vag_v (vd_frz (ve_add (vd_var (pv 3)) vd_int)) vag_nil)) (agl_b (agl_v agl_nil))))) (blkOk_by (N := ["pot", "size", "upto", "much", "k"]) (sc := defScope (top 36)) (own := [("k", 4)]) (by decide +kernel)) (fun _ _ _ _ _ => pg_name (i := 4) S.nd rfl (Or.inl rfl)) (fun _ _ _ _ _ => vts_nil) (fun _ _ _ _ _ => (vd_frz (ve_call (l := 3) ((ok_l_drawn_gate T).mono (by decide)) hgd hr (by rfl) T.g_l_drawn_gate T.D_l_drawn_gate.kp T.b_l_drawn_gate .nil (fun _ => .nil) takes0 (vag_b 0 (pv 0) (vag_v (vd_var (pv 1)) (vag_v (vd_var (pv 2)) vag_nil))) (agl_b (agl_v (agl_v agl_nil)))))))))))
theorem sc_is_integer : FnScope ["value"] ["value"] (defScope (top 9)) := ⟨rfl, rfl, rfl, by decide +kernel, rfl, by decide +kernel, by decide +kernel⟩
def b_is_integer (Z : Cs) : M Out := (mRet (mFr (mAndV (mIs isIntD (mVar 0)) (mNotV (mIs isBoolD (mVar 0))))))
def f_is_integer (Z : Cs) : FM := fnM 0 (b_is_integer Z)
theorem ok_is_integer (T : Txt K mg Z) : FnG P w K mg base (L2.CX P w) 1 T.a_is_integer T.d_is_integer ["value"] (spM K 1 (f_is_integer Z)) :=
  have S := sc_is_integer
  def_ok T.D_is_integer S rfl fun cdv A outer s H E ρ hgd hr tk hp =>
  (vss_one (vs_ret (ve_fr (vd_and (vd_is ty_int (by rfl) T.n_isinstance (by rfl) T.n_int (by decide +kernel) (vd_var (pv 0))) (vd_one (vd_not (vd_is ty_bool (by rfl) T.n_isinstance (by rfl) T.n_bool (by decide +kernel) (vd_var (pv 0)))))))))
theorem sc_is_tree : FnScope ["value", "index"] ["value"] (defScope (top 10)) := ⟨rfl, rfl, rfl, by decide +kernel, rfl, by decide +kernel, by decide +kernel⟩
def b_is_tree (Z : Cs) : M Out := (mSeq (mIf (mOr (mNot (mTst (mIs isTupD (mVar 0)))) (mOr (mNot (mCh false leD leD (ret (.int 1)) (mFrz (mLenV 0)) (ret (.int 10)))) (mNotN (mV2 idxD 0 (ret (.int 0)))))) (mRet (mFr (ret (.bl false)))) (ret .nx))
  (mSeq (mFor (m2 rng2 (ret (.int 1)) (mFrz (mLenV 0))) (gNm 1) (mIf (mOr (mNot (mTst (mFrz (mCl (f_is_integer Z) (gV (mV2 idxD 0 (mVar 1)) gNil) [])))) (mNot (mCh false leD ltD (ret (.int 0)) (mV2 idxD 0 (mVar 1)) (mVar 1)))) (mRet (mFr (ret (.bl false)))) (ret .nx)))
  (mRet (mFr (ret (.bl true))))))
def f_is_tree (Z : Cs) : FM := fnM 1 (b_is_tree Z)
theorem ok_is_tree (T : Txt K mg Z) : FnG P w K mg base (L2.CX P w) 2 T.a_is_tree T.d_is_tree ["value"] (spM K 1 (f_is_tree Z)) :=
  have S := sc_is_tree
  def_ok T.D_is_tree S rfl fun cdv A outer s H E ρ hgd hr tk hp =>
  (vss_cons (vs_if (vt_w (vw_or (vt_not (vt_val (vd_is ty_tup (by rfl) T.n_isinstance (by rfl) T.n_tuple (by decide +kernel) (vd_var (pv 0))))) (vw_or (vt_not (vt_chain op_le op_le opv_cmpI opv_cmpI vd_int (vd_frz (ve_lenV 0 (by rfl) T.n_len (pv 0))) vd_int)) (vw_or1 (vt_notN (vd_ixV 0 (pv 0) vd_int)))))) (vss_one (vs_ret (ve_fr vd_bl))) vss_nil)
  (vss_cons (vs_for hp rfl (vi_range2 (by rfl) T.n_range vd_int (vd_frz (ve_lenV 0 (by rfl) T.n_len (pv 0)))) (vg_name (i := 1) S.nd rfl (Or.inl rfl)) (vss_one (vs_if (vt_w (vw_or (vt_not (vt_val (vd_frz (ve_call (l := 1) ((ok_is_integer T).mono (by decide)) hgd hr (by rfl) T.g_is_integer T.D_is_integer.kp T.b_is_integer .nil (fun _ => .nil) tk (vag_v (vd_ixV 0 (pv 0) (vd_var (pv 1))) vag_nil) (agl_v agl_nil))))) (vw_or1 (vt_not (vt_chain op_le op_lt opv_cmpI opv_cmpI vd_int (vd_ixV 0 (pv 0) (vd_var (pv 1))) (vd_var (pv 1))))))) (vss_one (vs_ret (ve_fr vd_bl))) vss_nil)))
  (vss_one (vs_ret (ve_fr vd_bl)))))
theorem sc_need_tree : FnScope ["tree"] ["tree"] (defScope (top 11)) := ⟨rfl, rfl, rfl, by decide +kernel, rfl, by decide +kernel, by decide +kernel⟩
def b_need_tree (Z : Cs) : M Out := (mIf (mNot (mTst (mFrz (mCl (f_is_tree Z) (gV (mVar 0) gNil) [])))) (fun _ => none) (ret .nx))
def f_need_tree (Z : Cs) : FM := fnM 0 (b_need_tree Z)
theorem ok_need_tree (T : Txt K mg Z) : FnG P w K mg base (L2.CX P w) 3 T.a_need_tree T.d_need_tree ["tree"] (spM K 1 (f_need_tree Z)) :=
  have S := sc_need_tree
  def_ok T.D_need_tree S rfl fun cdv A outer s H E ρ hgd hr tk hp =>
  (vss_one (vs_if (vt_not (vt_val (vd_frz (ve_call (l := 1) ((ok_is_tree T).mono (by decide)) hgd hr (by rfl) T.g_is_tree T.D_is_tree.kp T.b_is_tree .nil (fun _ => .nil) tk (vag_v (vd_var (pv 0)) vag_nil) (agl_v agl_nil))))) (vss_one vs_never) vss_nil))
theorem sc_is_spot : FnScope ["tree", "value"] ["tree", "value"] (defScope (top 20)) := ⟨rfl, rfl, rfl, by decide +kernel, rfl, by decide +kernel, by decide +kernel⟩
def b_is_spot (Z : Cs) : M Out := (mRet (mFr (mAndV (mIs isIntD (mVar 1)) (mAndV (mNotV (mIs isBoolD (mVar 1))) (mBl (mCh false leD ltD (ret (.int 0)) (mVar 1) (mFrz (mLenV 0))))))))
def f_is_spot (Z : Cs) : FM := fnM 0 (b_is_spot Z)
theorem ok_is_spot (T : Txt K mg Z) : FnG P w K mg base (L2.CX P w) 1 T.a_is_spot T.d_is_spot ["tree", "value"] (spM K 2 (f_is_spot Z)) :=
  have S := sc_is_spot
  def_ok T.D_is_spot S rfl fun cdv A outer s H E ρ hgd hr tk hp =>
  (vss_one (vs_ret (ve_fr (vd_and (vd_is ty_int (by rfl) T.n_isinstance (by rfl) T.n_int (by decide +kernel) (vd_var (pv 1))) (vd_and (vd_not (vd_is ty_bool (by rfl) T.n_isinstance (by rfl) T.n_bool (by decide +kernel) (vd_var (pv 1)))) (vd_one (vd_chain op_le op_lt opv_cmpI opv_cmpI vd_int (vd_var (pv 1)) (vd_frz (ve_lenV 0 (by rfl) T.n_len (pv 0))))))))))
theorem sc_is_spots : FnScope ["tree", "value", "at", "spot"] ["tree", "value"] (defScope (top 21)) := ⟨rfl, rfl, rfl, by decide +kernel, rfl, by decide +kernel, by decide +kernel⟩
def b_is_spots (Z : Cs) : M Out := (mSeq (mIf (mNot (mTst (mIs isTupD (mVar 1)))) (mRet (mFr (ret (.bl false)))) (ret .nx))
  (mSeq (mFor (m1 enumD (mVar 1)) (gTp 2 (gConsD (gNm 2) (gConsD (gNm 3) gNilD))) (mSeq (mIf (mNot (mTst (mFrz (mCl (f_is_spot Z) (gV (mVar 0) (gV (mVar 3) gNil)) [])))) (mRet (mFr (ret (.bl false)))) (ret .nx))
  (mIf (mAnd (m2 gtD (mVar 2) (ret (.int 0))) (m2 leD (mVar 3) (mV2 idxD 1 (m2 subD (mVar 2) (ret (.int 1)))))) (mRet (mFr (ret (.bl false)))) (ret .nx))))
  (mRet (mFr (ret (.bl true))))))
def f_is_spots (Z : Cs) : FM := fnM 2 (b_is_spots Z)
theorem ok_is_spots (T : Txt K mg Z) : FnG P w K mg base (L2.CX P w) 2 T.a_is_spots T.d_is_spots ["tree", "value"] (spM K 2 (f_is_spots Z)) :=
  have S := sc_is_spots
  def_ok T.D_is_spots S rfl fun cdv A outer s H E ρ hgd hr tk hp =>
  (vss_cons (vs_if (vt_not (vt_val (vd_is ty_tup (by rfl) T.n_isinstance (by rfl) T.n_tuple (by decide +kernel) (vd_var (pv 1))))) (vss_one (vs_ret (ve_fr vd_bl))) vss_nil)
  (vss_cons (vs_for hp rfl (vi_enumT (by rfl) T.n_enumerate (vd_var (pv 1))) (vg_tup rfl (vgs_cons (vg_name (i := 2) S.nd rfl (Or.inl rfl)) (vgs_cons (vg_name (i := 3) S.nd rfl (Or.inl rfl)) vgs_nil))) (vss_cons (vs_if (vt_not (vt_val (vd_frz (ve_call (l := 2) ((ok_is_spot T).mono (by decide)) hgd hr (by rfl) T.g_is_spot T.D_is_spot.kp T.b_is_spot .nil (fun _ => .nil) tk (vag_v (vd_var (pv 0)) (vag_v (vd_var (pv 3)) vag_nil)) (agl_v (agl_v agl_nil)))))) (vss_one (vs_ret (ve_fr vd_bl))) vss_nil)
  (vss_one (vs_if (vt_w (vw_and (vt_gt (vd_var (pv 2)) vd_int) (vw_and1 (vt_le (vd_var (pv 3)) (vd_ixV 1 (pv 1) (vd_sub (vd_var (pv 2)) vd_int)))))) (vss_one (vs_ret (ve_fr vd_bl))) vss_nil))))
  (vss_one (vs_ret (ve_fr vd_bl)))))
theorem sc_is_swaps : FnScope ["tree", "value", "firsts", "pair"] ["tree", "value"] (defScope (top 22)) := ⟨rfl, rfl, rfl, by decide +kernel, rfl, by decide +kernel, by decide +kernel⟩
def b_is_swaps (Z : Cs) : M Out := (mSeq (mIf (mNot (mTst (mIs isTupD (mVar 1)))) (mRet (mFr (ret (.bl false)))) (ret .nx))
  (mSeq (mSet 2 (mLst mNil))
  (mSeq (mFor (mItems (mVar 1)) (gNm 3) (mSeq (mIf (mOr (mNot (mTst (mIs isTupD (mVar 3)))) (m2 neD (mFrz (mLenV 3)) (ret (.int 2)))) (mRet (mFr (ret (.bl false)))) (ret .nx))
  (mSeq (mIf (mOr (mNot (mTst (mFrz (mCl (f_is_spot Z) (gV (mVar 0) (gV (mV2 idxD 3 (ret (.int 0))) gNil)) [])))) (mNot (mTst (mFrz (mCl (f_is_spot Z) (gV (mVar 0) (gV (mV2 idxD 3 (ret (.int 1))) gNil)) []))))) (mRet (mFr (ret (.bl false)))) (ret .nx))
  (mDrop (mApp 2 (mV2 idxD 3 (ret (.int 0))))))))
  (mRet (mCl (f_is_spots Z) (gV (mVar 0) (gV (mFrz (mCal fnTuple (mCons (mVar 2) mNil))) gNil)) [])))))
def f_is_swaps (Z : Cs) : FM := fnM 2 (b_is_swaps Z)
theorem ok_is_swaps (T : Txt K mg Z) : FnG P w K mg base (L2.CX P w) 3 T.a_is_swaps T.d_is_swaps ["tree", "value"] (spM K 2 (f_is_swaps Z)) :=
  have S := sc_is_swaps
  def_ok T.D_is_swaps S rfl fun cdv A outer s H E ρ hgd hr tk hp =>
  (vss_cons (vs_if (vt_not (vt_val (vd_is ty_tup (by rfl) T.n_isinstance (by rfl) T.n_tuple (by decide +kernel) (vd_var (pv 1))))) (vss_one (vs_ret (ve_fr vd_bl))) vss_nil)
  (vss_cons (vs_set (i := 2) S.nd rfl (Or.inl rfl) (ve_lst va_nil))
  (vss_cons (vs_for hp rfl (vi_seq (vd_var (pv 1))) (vg_name (i := 3) S.nd rfl (Or.inl rfl)) (vss_cons (vs_if (vt_w (vw_or (vt_not (vt_val (vd_is ty_tup (by rfl) T.n_isinstance (by rfl) T.n_tuple (by decide +kernel) (vd_var (pv 3))))) (vw_or1 (vt_ne hr.units (vd_frz (ve_lenV 3 (by rfl) T.n_len (pv 3))) vd_int)))) (vss_one (vs_ret (ve_fr vd_bl))) vss_nil)
  (vss_cons (vs_if (vt_w (vw_or (vt_not (vt_val (vd_frz (ve_call (l := 2) ((ok_is_spot T).mono (by decide)) hgd hr (by rfl) T.g_is_spot T.D_is_spot.kp T.b_is_spot .nil (fun _ => .nil) tk (vag_v (vd_var (pv 0)) (vag_v (vd_ixV 3 (pv 3) vd_int) vag_nil)) (agl_v (agl_v agl_nil)))))) (vw_or1 (vt_not (vt_val (vd_frz (ve_call (l := 2) ((ok_is_spot T).mono (by decide)) hgd hr (by rfl) T.g_is_spot T.D_is_spot.kp T.b_is_spot .nil (fun _ => .nil) tk (vag_v (vd_var (pv 0)) (vag_v (vd_ixV 3 (pv 3) vd_int) vag_nil)) (agl_v (agl_v agl_nil))))))))) (vss_one (vs_ret (ve_fr vd_bl))) vss_nil)
  (vss_one (vs_expr (ve_app 2 (pv 2) (vd_ixV 3 (pv 3) vd_int) (pe_bm PySem.F.plainAttrs_list PySem.F.slot_list_append PySem.F.type_list_append mt_append (pv 2) (pa_cons (vd_ixV 3 (pv 3) vd_int) pa_nil))))))))
  (vss_one (vs_ret (ve_call (l := 2) ((ok_is_spots T).mono (by decide)) hgd hr (by rfl) T.g_is_spots T.D_is_spots.kp T.b_is_spots .nil (fun _ => .nil) tk (vag_v (vd_var (pv 0)) (vag_v (vd_frz (ve_tuple (by rfl) T.n_tuple (vd_var (pv 2)))) vag_nil)) (agl_v (agl_v agl_nil))))))))
theorem sc_locale_there : FnScope ["tree", "value"] ["tree", "value"] (defScope (top 12)) := ⟨rfl, rfl, rfl, by decide +kernel, rfl, by decide +kernel, by decide +kernel⟩
def b_locale_there (Z : Cs) : M Out := (mRet (mFr (mAndV (mFrz (mCl (f_is_integer Z) (gV (mVar 1) gNil) [])) (mBl (mCh false leD ltD (ret (.int 0)) (mVar 1) (mFrz (mLenV 0)))))))
def f_locale_there (Z : Cs) : FM := fnM 0 (b_locale_there Z)
theorem ok_locale_there (T : Txt K mg Z) : FnG P w K mg base (L2.CX P w) 2 T.a_locale_there T.d_locale_there ["tree", "value"] (spM K 2 (f_locale_there Z)) :=
  have S := sc_locale_there
  def_ok T.D_locale_there S rfl fun cdv A outer s H E ρ hgd hr tk hp =>
  (vss_one (vs_ret (ve_fr (vd_and (vd_frz (ve_call (l := 1) ((ok_is_integer T).mono (by decide)) hgd hr (by rfl) T.g_is_integer T.D_is_integer.kp T.b_is_integer .nil (fun _ => .nil) tk (vag_v (vd_var (pv 1)) vag_nil) (agl_v agl_nil))) (vd_one (vd_chain op_le op_lt opv_cmpI opv_cmpI vd_int (vd_var (pv 1)) (vd_frz (ve_lenV 0 (by rfl) T.n_len (pv 0)))))))))
theorem sc_wishes_there : FnScope ["tree", "value", "wish"] ["tree", "value"] (defScope (top 13)) := ⟨rfl, rfl, rfl, by decide +kernel, rfl, by decide +kernel, by decide +kernel⟩
def b_wishes_there (Z : Cs) : M Out := (mSeq (mIf (mNot (mTst (mIs isTupD (mVar 1)))) (mRet (mFr (ret (.bl false)))) (ret .nx))
  (mSeq (mFor (mItems (mVar 1)) (gNm 2) (mIf (mNot (mTst (mFrz (mCl (f_locale_there Z) (gV (mVar 0) (gV (mVar 2) gNil)) [])))) (mRet (mFr (ret (.bl false)))) (ret .nx)))
  (mRet (mFr (ret (.bl true))))))
def f_wishes_there (Z : Cs) : FM := fnM 1 (b_wishes_there Z)
theorem ok_wishes_there (T : Txt K mg Z) : FnG P w K mg base (L2.CX P w) 3 T.a_wishes_there T.d_wishes_there ["tree", "value"] (spM K 2 (f_wishes_there Z)) :=
  have S := sc_wishes_there
  def_ok T.D_wishes_there S rfl fun cdv A outer s H E ρ hgd hr tk hp =>
  (vss_cons (vs_if (vt_not (vt_val (vd_is ty_tup (by rfl) T.n_isinstance (by rfl) T.n_tuple (by decide +kernel) (vd_var (pv 1))))) (vss_one (vs_ret (ve_fr vd_bl))) vss_nil)
  (vss_cons (vs_for hp rfl (vi_seq (vd_var (pv 1))) (vg_name (i := 2) S.nd rfl (Or.inl rfl)) (vss_one (vs_if (vt_not (vt_val (vd_frz (ve_call (l := 2) ((ok_locale_there T).mono (by decide)) hgd hr (by rfl) T.g_locale_there T.D_locale_there.kp T.b_locale_there .nil (fun _ => .nil) tk (vag_v (vd_var (pv 0)) (vag_v (vd_var (pv 2)) vag_nil)) (agl_v (agl_v agl_nil)))))) (vss_one (vs_ret (ve_fr vd_bl))) vss_nil)))
  (vss_one (vs_ret (ve_fr vd_bl)))))
theorem sc_is_wishes : FnScope ["tree", "value"] ["tree", "value"] (defScope (top 15)) := ⟨rfl, rfl, rfl, by decide +kernel, rfl, by decide +kernel, by decide +kernel⟩
def b_is_wishes (Z : Cs) : M Out := (mSeq (mDrop (mCl (f_need_tree Z) (gV (mVar 0) gNil) []))
  (mRet (mCl (f_wishes_there Z) (gV (mVar 0) (gV (mVar 1) gNil)) [])))
def f_is_wishes (Z : Cs) : FM := fnM 0 (b_is_wishes Z)
theorem ok_is_wishes (T : Txt K mg Z) : FnG P w K mg base (L2.CX P w) 4 T.a_is_wishes T.d_is_wishes ["tree", "value"] (spM K 2 (f_is_wishes Z)) :=
  have S := sc_is_wishes
  def_ok T.D_is_wishes S rfl fun cdv A outer s H E ρ hgd hr tk hp =>
  (vss_cons (vs_expr (ve_call (l := 1) ((ok_need_tree T).mono (by decide)) hgd hr (by rfl) T.g_need_tree T.D_need_tree.kp T.b_need_tree .nil (fun _ => .nil) tk (vag_v (vd_var (pv 0)) vag_nil) (agl_v agl_nil)))
  (vss_one (vs_ret (ve_call (l := 2) ((ok_wishes_there T).mono (by decide)) hgd hr (by rfl) T.g_wishes_there T.D_wishes_there.kp T.b_wishes_there .nil (fun _ => .nil) tk (vag_v (vd_var (pv 0)) (vag_v (vd_var (pv 1)) vag_nil)) (agl_v (agl_v agl_nil))))))
theorem sc_door_fits : FnScope ["tree", "value", "word", "told"] ["tree", "value"] (defScope (top 23)) := ⟨rfl, rfl, rfl, by decide +kernel, rfl, by decide +kernel, by decide +kernel⟩
def b_door_fits (Z : Cs) : M Out := (mSeq (mIf (mOr (mNot (mTst (mIs isTupD (mVar 1)))) (mOr (m2 neD (mFrz (mLenV 1)) (ret (.int 2))) (mNot (mTst (mIs isStrD (mV2 idxD 1 (ret (.int 0)))))))) (mRet (mFr (ret (.bl false)))) (ret .nx))
  (mSeq (mAsg (gTp 2 (gConsD (gNm 2) (gConsD (gNm 3) gNilD))) (mVar 1))
  (mSeq (mIf (mOr (m2 eqD (mVar 2) (ret (.str "only"))) (m2 eqD (mVar 2) (ret (.str "lift")))) (mRet (mCl (f_is_spots Z) (gV (mVar 0) (gV (mVar 3) gNil)) [])) (ret .nx))
  (mSeq (mIf (m2 eqD (mVar 2) (ret (.str "swap"))) (mRet (mCl (f_is_swaps Z) (gV (mVar 0) (gV (mVar 3) gNil)) [])) (ret .nx))
  (mRet (mFr (mAndV (mOrV (m2 (bD eqD) (mVar 2) (ret (.str "head"))) (m2 (bD eqD) (mVar 2) (ret (.str "pad")))) (mFrz (mCl (f_is_wishes Z) (gV (mVar 0) (gV (mVar 3) gNil)) [])))))))))
def f_door_fits (Z : Cs) : FM := fnM 2 (b_door_fits Z)
theorem ok_door_fits (T : Txt K mg Z) : FnG P w K mg base (L2.CX P w) 5 T.a_door_fits T.d_door_fits ["tree", "value"] (spM K 2 (f_door_fits Z)) :=
  have S := sc_door_fits
  def_ok T.D_door_fits S rfl fun cdv A outer s H E ρ hgd hr tk hp =>
  (vss_cons (vs_if (vt_w (vw_or (vt_not (vt_val (vd_is ty_tup (by rfl) T.n_isinstance (by rfl) T.n_tuple (by decide +kernel) (vd_var (pv 1))))) (vw_or (vt_ne hr.units (vd_frz (ve_lenV 1 (by rfl) T.n_len (pv 1))) vd_int) (vw_or1 (vt_not (vt_val (vd_is ty_str (by rfl) T.n_isinstance (by rfl) T.n_str (by decide +kernel) (vd_ixV 1 (pv 1) vd_int)))))))) (vss_one (vs_ret (ve_fr vd_bl))) vss_nil)
  (vss_cons (vs_asg (vd_var (pv 1)) (vg_tup rfl (vgs_cons (vg_name (i := 2) S.nd rfl (Or.inl rfl)) (vgs_cons (vg_name (i := 3) S.nd rfl (Or.inl rfl)) vgs_nil))))
  (vss_cons (vs_if (vt_w (vw_or (vt_eq hr.units (vd_var (pv 2)) vd_str) (vw_or1 (vt_eq hr.units (vd_var (pv 2)) vd_str)))) (vss_one (vs_ret (ve_call (l := 2) ((ok_is_spots T).mono (by decide)) hgd hr (by rfl) T.g_is_spots T.D_is_spots.kp T.b_is_spots .nil (fun _ => .nil) tk (vag_v (vd_var (pv 0)) (vag_v (vd_var (pv 3)) vag_nil)) (agl_v (agl_v agl_nil))))) vss_nil)
  (vss_cons (vs_if (vt_eq hr.units (vd_var (pv 2)) vd_str) (vss_one (vs_ret (ve_call (l := 2) ((ok_is_swaps T).mono (by decide)) hgd hr (by rfl) T.g_is_swaps T.D_is_swaps.kp T.b_is_swaps .nil (fun _ => .nil) tk (vag_v (vd_var (pv 0)) (vag_v (vd_var (pv 3)) vag_nil)) (agl_v (agl_v agl_nil))))) vss_nil)
  (vss_one (vs_ret (ve_fr (vd_and (vd_or (vd_eq hr.units (vd_var (pv 2)) vd_str) (vd_one (vd_eq hr.units (vd_var (pv 2)) vd_str))) (vd_one (vd_frz (ve_call (l := 2) ((ok_is_wishes T).mono (by decide)) hgd hr (by rfl) T.g_is_wishes T.D_is_wishes.kp T.b_is_wishes .nil (fun _ => .nil) tk (vag_v (vd_var (pv 0)) (vag_v (vd_var (pv 3)) vag_nil)) (agl_v (agl_v agl_nil)))))))))))))
theorem sc_Doors_init : FnScope ["self", "tree", "doors", "door"] ["self", "tree", "doors"] (defScope (inC (top 29) 0)) := ⟨rfl, rfl, rfl, by decide +kernel, rfl, by decide +kernel, by decide +kernel⟩
def b_Doors_init (Z : Cs) : M Out := (mSeq (mDrop (mCl (f_need_tree Z) (gV (mVar 1) gNil) []))
  (mSeq (mFor (mItems (mVar 2)) (gNm 3) (mIf (mNot (mTst (mFrz (mCl (f_door_fits Z) (gV (mVar 1) (gV (mVar 3) gNil)) [])))) (fun _ => none) (ret .nx)))
  (mSeq (mSetF (fun c => c == Z.Doors) 0 "ground" (mFr (mVar 1)))
  (mSetF (fun c => c == Z.Doors) 0 "gates" (mFr (mVar 2))))))
def f_Doors_init (Z : Cs) : FM := fnM 1 (b_Doors_init Z)
theorem st_Doors_init (T : Txt K mg Z) (j : Nat) : FnC P w K mg base 6 T.a_Doors_init [] (argM 2 j (selD (selRest 2 j)) (f_Doors_init Z)) := star_ok (ps := ["self", "tree"]) (pv := "doors") (k := 5) T.D_Doors_init sc_Doors_init rfl (selRest 2 j) (2 + j) rfl (fun kV doc pm an cdv ct us ws hu hw => by
  obtain rfl : ws = [] := List.eq_nil_of_length_eq_zero hw
  rw [List.append_nil]
  match us, hu with
  | [a0, a1], _ => rfl
  | a0 :: a1 :: r :: rs, _ => rfl
  | [], h => exact absurd h (by simp; omega)
  | [_], h => exact absurd h (by simp; omega)) (fun cdv A outer s H E ρ hgd hr tk hp =>
  have S := sc_Doors_init
  (vss_cons (vs_expr (ve_call (l := 1) ((ok_need_tree T).mono (by decide)) hgd hr (by rfl) T.g_need_tree T.D_need_tree.kp T.b_need_tree .nil (fun _ => .nil) tk (vag_v (vd_var (pv 1)) vag_nil) (agl_v agl_nil)))
  (vss_cons (vs_for hp rfl (vi_seq (vd_var (pv 2))) (vg_name (i := 3) S.nd rfl (Or.inl rfl)) (vss_one (vs_if (vt_not (vt_val (vd_frz (ve_call (l := 2) ((ok_door_fits T).mono (by decide)) hgd hr (by rfl) T.g_door_fits T.D_door_fits.kp T.b_door_fits .nil (fun _ => .nil) tk (vag_v (vd_var (pv 1)) (vag_v (vd_var (pv 3)) vag_nil)) (agl_v (agl_v agl_nil)))))) (vss_one vs_never) vss_nil)))
  (vss_cons (vs_setF 0 (pv 0) (ve_fr (vd_var (pv 1))) (cs_one ⟨T.c_Doors, T.noat_Doors_ground⟩))
  (vss_one (vs_setF 0 (pv 0) (ve_fr (vd_var (pv 2))) (cs_one ⟨T.c_Doors, T.noat_Doors_gates⟩)))))))
theorem sa_Doors_init (T : Txt K mg Z) : FnC P w K mg base 6 T.a_Doors_init [] (anyM 2 fun j => argM 2 j (selD (selRest 2 j)) (f_Doors_init Z)) := fnc_any (st_Doors_init T)
theorem sk_Doors_init (T : Txt K mg Z) : FnC P w K mg base 6 T.a_Doors_init ["tree"] (argM 1 1 (selD (selAll ["tree"] 1)) (f_Doors_init Z)) := star_ok (ps := ["self", "tree"]) (pv := "doors") (k := 5) T.D_Doors_init sc_Doors_init rfl (selAll ["tree"] 1) 1 rfl (fun kV doc pm an cdv ct us ws hu hw => match us, ws, hu, hw with | [a], [b0], _, _ => rfl) (fun cdv A outer s H E ρ hgd hr tk hp =>
  have S := sc_Doors_init
  (vss_cons (vs_expr (ve_call (l := 1) ((ok_need_tree T).mono (by decide)) hgd hr (by rfl) T.g_need_tree T.D_need_tree.kp T.b_need_tree .nil (fun _ => .nil) tk (vag_v (vd_var (pv 1)) vag_nil) (agl_v agl_nil)))
  (vss_cons (vs_for hp rfl (vi_seq (vd_var (pv 2))) (vg_name (i := 3) S.nd rfl (Or.inl rfl)) (vss_one (vs_if (vt_not (vt_val (vd_frz (ve_call (l := 2) ((ok_door_fits T).mono (by decide)) hgd hr (by rfl) T.g_door_fits T.D_door_fits.kp T.b_door_fits .nil (fun _ => .nil) tk (vag_v (vd_var (pv 1)) (vag_v (vd_var (pv 3)) vag_nil)) (agl_v (agl_v agl_nil)))))) (vss_one vs_never) vss_nil)))
  (vss_cons (vs_setF 0 (pv 0) (ve_fr (vd_var (pv 1))) (cs_one ⟨T.c_Doors, T.noat_Doors_ground⟩))
  (vss_one (vs_setF 0 (pv 0) (ve_fr (vd_var (pv 2))) (cs_one ⟨T.c_Doors, T.noat_Doors_gates⟩)))))))
theorem sc_Doors_of : FnScope ["tree", "doors"] ["tree", "doors"] (defScope (inC (top 29) 1)) := ⟨rfl, rfl, rfl, by decide +kernel, rfl, by decide +kernel, by decide +kernel⟩
def b_Doors_of (Z : Cs) : M Out := (mSeq (mDrop (mCl (f_need_tree Z) (gV (mVar 0) gNil) []))
  (mSeq (mIf (mNot (mTst (mIs isTupD (mVar 1)))) (fun _ => none) (ret .nx))
  (mRet (bnd (gV (mVar 0) (gStar (mVar 1) gNil)) (callA (mkM Z.Doors (anyM 2 fun j => argM 2 j (selD (selRest 2 j)) (f_Doors_init Z))))))))
def f_Doors_of (Z : Cs) : FM := fnM 0 (b_Doors_of Z)
theorem ok_Doors_of (T : Txt K mg Z) : FnG P w K mg base (L2.CX P w) 8 T.a_Doors_of T.d_Doors_of ["tree", "doors"] (spM K 2 (f_Doors_of Z)) :=
  have S := sc_Doors_of
  def_ok T.D_Doors_of S rfl fun cdv A outer s H E ρ hgd hr tk hp =>
  (vss_cons (vs_expr (ve_call (l := 1) ((ok_need_tree T).mono (by decide)) hgd hr (by rfl) T.g_need_tree T.D_need_tree.kp T.b_need_tree .nil (fun _ => .nil) tk (vag_v (vd_var (pv 0)) vag_nil) (agl_v agl_nil)))
  (vss_cons (vs_if (vt_not (vt_val (vd_is ty_tup (by rfl) T.n_isinstance (by rfl) T.n_tuple (by decide +kernel) (vd_var (pv 1))))) (vss_one vs_never) vss_nil)
  (vss_one (vs_ret (ve_callN (cal_cls (k := 6) T.mk_Doors (sa_Doors_init T) hgd (hr.mono (by decide)) tk) T.mk_Doors.kp (by rfl) T.g_Doors (vak_star (vag_v (vd_var (pv 0)) (vag_star (vd_var (pv 1)) vag_nil))))))))
theorem sc_Doors_need_like : FnScope ["self", "other"] ["self", "other"] (defScope (inC (top 29) 10)) := ⟨rfl, rfl, rfl, by decide +kernel, rfl, by decide +kernel, by decide +kernel⟩
def b_Doors_need_like (Z : Cs) : M Out := (mIf (mOr (mNot (mTst (mIsO (sub1 Z.Doors) (mVar 1)))) (m2 neD (mFld (fun c => c == Z.Doors) "ground" (rB 0)) (mFld (fun c => c == Z.Doors) "ground" (rB 1)))) (fun _ => none) (ret .nx))
def f_Doors_need_like (Z : Cs) : FM := fnM 0 (b_Doors_need_like Z)
theorem ok_Doors_need_like (T : Txt K mg Z) : FnG P w K mg base (L2.CX P w) 1 T.a_Doors_need_like T.d_Doors_need_like ["self", "other"] (spM K 2 (f_Doors_need_like Z)) :=
  have S := sc_Doors_need_like
  def_ok T.D_Doors_need_like S rfl fun cdv A outer s H E ρ hgd hr tk hp =>
  (vss_one (vs_if (vt_w (vw_or (vt_not (vt_val (vd_isO T.nb_Doors (sub_one ⟨T.isi_Doors, T.kit_Doors⟩) (by rfl) T.n_isinstance (by rfl) T.g_Doors (vd_var (pv 1))))) (vw_or1 (vt_ne hr.units (vd_fld (vr_b 0 (pv 0)) (cs_one ⟨T.c_Doors, T.noat_Doors_ground⟩)) (vd_fld (vr_b 1 (pv 1)) (cs_one ⟨T.c_Doors, T.noat_Doors_ground⟩)))))) (vss_one vs_never) vss_nil))
theorem sc_Doors_add : FnScope ["self", "other"] ["self", "other"] (defScope (inC (top 29) 8)) := ⟨rfl, rfl, rfl, by decide +kernel, rfl, by decide +kernel, by decide +kernel⟩
def b_Doors_add (Z : Cs) : M Out := (mSeq (mDrop (mMth (some "need_like") (disp1 Z.Doors (argM 2 0 (fun _ => some []) (f_Doors_need_like Z))) (rB 0) (gApp (gV (mVar 1) gNil) gNil)))
  (mRet (bnd (gApp (gV (mFld (fun c => c == Z.Doors) "ground" (rB 0)) (gV (mFrz (m2 addD (mFld (fun c => c == Z.Doors) "gates" (rB 0)) (mFld (fun c => c == Z.Doors) "gates" (rB 1)))) gNil)) gNil) (callA (argM 2 0 (fun _ => some []) (f_Doors_of Z))))))
def f_Doors_add (Z : Cs) : FM := fnM 0 (b_Doors_add Z)
theorem ok_Doors_add (T : Txt K mg Z) : FnG P w K mg base (L2.CX P w) 9 T.a_Doors_add T.d_Doors_add ["self", "other"] (spM K 2 (f_Doors_add Z)) :=
  have S := sc_Doors_add
  def_ok T.D_Doors_add S rfl fun cdv A outer s H E ρ hgd hr tk hp =>
  (vss_cons (vs_expr (ve_meth (vr_b 0 (pv 0)) (disp_one ⟨_, T.c_Doors, T.meth_Doors_need_like, (cal_fn (FnC.mono (fnc_of (n := 2) (dvs := []) (dds := []) (ok_Doors_need_like T) T.b_Doors_need_like .nil (fun _ => .nil) rfl) (by decide)) hgd hr tk)⟩) (vak_args (ks := []) (vag_v (vd_var (pv 1)) vag_nil) vkg_nil agl_nil)))
  (vss_one (vs_ret (ve_static T.sm_Doors_of (by rfl) T.g_Doors (cal_fn (FnC.mono (fnc_of (n := 2) (dvs := []) (dds := []) (ok_Doors_of T) T.b_Doors_of .nil (fun _ => .nil) rfl) (by decide)) hgd hr tk) (vak_args (ks := []) (vag_v (vd_fld (vr_b 0 (pv 0)) (cs_one ⟨T.c_Doors, T.noat_Doors_ground⟩)) (vag_v (vd_frz (ve_add (vd_fld (vr_b 0 (pv 0)) (cs_one ⟨T.c_Doors, T.noat_Doors_gates⟩)) (vd_fld (vr_b 1 (pv 1)) (cs_one ⟨T.c_Doors, T.noat_Doors_gates⟩)))) vag_nil)) vkg_nil agl_nil)))))
theorem sc_l_spelled : FnScope ["fir", "gates"] ["fir", "gates"] (defScope (top 37)) := ⟨rfl, rfl, rfl, by decide +kernel, rfl, by decide +kernel, by decide +kernel⟩
def b_l_spelled (Z : Cs) : M Out := (mSeq (mIf (m2 eqD (mFrz (mLenV 1)) (ret (.int 0))) (mRet (bnd (gApp (gV (mVar 0) gNil) gNil) (callA (mkM Z.Doors (anyM 2 fun j => argM 2 j (selD (selRest 2 j)) (f_Doors_init Z)))))) (ret .nx))
  (mSeq (mIf (m2 eqD (mFrz (mLenV 1)) (ret (.int 1))) (mRet (bnd (gApp (gV (mVar 0) (gV (mV2 idxD 1 (ret (.int 0))) gNil)) gNil) (callA (mkM Z.Doors (anyM 2 fun j => argM 2 j (selD (selRest 2 j)) (f_Doors_init Z)))))) (ret .nx))
  (mSeq (mIf (m2 eqD (mFrz (mLenV 1)) (ret (.int 2))) (mRet (bnd (gApp (gV (mVar 0) (gV (mV2 idxD 1 (ret (.int 0))) (gV (mV2 idxD 1 (ret (.int 1))) gNil))) gNil) (callA (mkM Z.Doors (anyM 2 fun j => argM 2 j (selD (selRest 2 j)) (f_Doors_init Z)))))) (ret .nx))
  (mRet (bnd (gApp (gV (mVar 0) (gV (mV2 idxD 1 (ret (.int 0))) (gV (mV2 idxD 1 (ret (.int 1))) (gV (mV2 idxD 1 (ret (.int 2))) gNil)))) gNil) (callA (mkM Z.Doors (anyM 2 fun j => argM 2 j (selD (selRest 2 j)) (f_Doors_init Z)))))))))
def f_l_spelled (Z : Cs) : FM := fnM 0 (b_l_spelled Z)
theorem ok_l_spelled (T : Txt K mg Z) : FnG P w K mg base (L2.CX P w) 8 T.a_l_spelled T.d_l_spelled ["fir", "gates"] (spM K 2 (f_l_spelled Z)) :=
  have S := sc_l_spelled
  def_ok T.D_l_spelled S rfl fun cdv A outer s H E ρ hgd hr tk hp =>
  (vss_cons (vs_if (vt_eq hr.units (vd_frz (ve_lenV 1 (by rfl) T.n_len (pv 1))) vd_int) (vss_one (vs_ret (ve_callN (cal_cls (k := 6) T.mk_Doors (sa_Doors_init T) hgd (hr.mono (by decide)) tk) T.mk_Doors.kp (by rfl) T.g_Doors (vak_args (ks := []) (vag_v (vd_var (pv 0)) vag_nil) vkg_nil agl_nil)))) vss_nil)
  (vss_cons (vs_if (vt_eq hr.units (vd_frz (ve_lenV 1 (by rfl) T.n_len (pv 1))) vd_int) (vss_one (vs_ret (ve_callN (cal_cls (k := 6) T.mk_Doors (sa_Doors_init T) hgd (hr.mono (by decide)) tk) T.mk_Doors.kp (by rfl) T.g_Doors (vak_args (ks := []) (vag_v (vd_var (pv 0)) (vag_v (vd_ixV 1 (pv 1) vd_int) vag_nil)) vkg_nil agl_nil)))) vss_nil)
  (vss_cons (vs_if (vt_eq hr.units (vd_frz (ve_lenV 1 (by rfl) T.n_len (pv 1))) vd_int) (vss_one (vs_ret (ve_callN (cal_cls (k := 6) T.mk_Doors (sa_Doors_init T) hgd (hr.mono (by decide)) tk) T.mk_Doors.kp (by rfl) T.g_Doors (vak_args (ks := []) (vag_v (vd_var (pv 0)) (vag_v (vd_ixV 1 (pv 1) vd_int) (vag_v (vd_ixV 1 (pv 1) vd_int) vag_nil))) vkg_nil agl_nil)))) vss_nil)
  (vss_one (vs_ret (ve_callN (cal_cls (k := 6) T.mk_Doors (sa_Doors_init T) hgd (hr.mono (by decide)) tk) T.mk_Doors.kp (by rfl) T.g_Doors (vak_args (ks := []) (vag_v (vd_var (pv 0)) (vag_v (vd_ixV 1 (pv 1) vd_int) (vag_v (vd_ixV 1 (pv 1) vd_int) (vag_v (vd_ixV 1 (pv 1) vd_int) vag_nil)))) vkg_nil agl_nil)))))))
theorem sc_Doors_behind : FnScope ["self", "door"] ["self", "door"] (defScope (inC (top 29) 13)) := ⟨rfl, rfl, rfl, by decide +kernel, rfl, by decide +kernel, by decide +kernel⟩
def b_Doors_behind (Z : Cs) : M Out := (mSeq (mIf (mNot (mTst (mFrz (mCl (f_door_fits Z) (gV (mFld (fun c => c == Z.Doors) "ground" (rB 0)) (gV (mVar 1) gNil)) [])))) (fun _ => none) (ret .nx))
  (mRet (bnd (gApp (gV (mFld (fun c => c == Z.Doors) "ground" (rB 0)) (gV (mFrz (m2 addD (mFld (fun c => c == Z.Doors) "gates" (rB 0)) (mTup (mCons (mVar 1) mNil)))) gNil)) gNil) (callA (argM 2 0 (fun _ => some []) (f_Doors_of Z))))))
def f_Doors_behind (Z : Cs) : FM := fnM 0 (b_Doors_behind Z)
theorem ok_Doors_behind (T : Txt K mg Z) : FnG P w K mg base (L2.CX P w) 9 T.a_Doors_behind T.d_Doors_behind ["self", "door"] (spM K 2 (f_Doors_behind Z)) :=
  have S := sc_Doors_behind
  def_ok T.D_Doors_behind S rfl fun cdv A outer s H E ρ hgd hr tk hp =>
  (vss_cons (vs_if (vt_not (vt_val (vd_frz (ve_call (l := 2) ((ok_door_fits T).mono (by decide)) hgd hr (by rfl) T.g_door_fits T.D_door_fits.kp T.b_door_fits .nil (fun _ => .nil) tk (vag_v (vd_fld (vr_b 0 (pv 0)) (cs_one ⟨T.c_Doors, T.noat_Doors_ground⟩)) (vag_v (vd_var (pv 1)) vag_nil)) (agl_v (agl_v agl_nil)))))) (vss_one vs_never) vss_nil)
  (vss_one (vs_ret (ve_static T.sm_Doors_of (by rfl) T.g_Doors (cal_fn (FnC.mono (fnc_of (n := 2) (dvs := []) (dds := []) (ok_Doors_of T) T.b_Doors_of .nil (fun _ => .nil) rfl) (by decide)) hgd hr tk) (vak_args (ks := []) (vag_v (vd_fld (vr_b 0 (pv 0)) (cs_one ⟨T.c_Doors, T.noat_Doors_ground⟩)) (vag_v (vd_frz (ve_add (vd_fld (vr_b 0 (pv 0)) (cs_one ⟨T.c_Doors, T.noat_Doors_gates⟩)) (vd_tup (va_cons (vd_var (pv 1)) va_nil)))) vag_nil)) vkg_nil agl_nil)))))
theorem sc_l_made : FnScope ["pot", "fir", "gates", "road", "cut", "made", "gate"] ["pot", "fir", "gates"] (defScope (top 38)) := ⟨rfl, rfl, rfl, by decide +kernel, rfl, by decide +kernel, by decide +kernel⟩
def b_l_made (Z : Cs) : M Out := (mSeq (mSet 3 (mCl (f_l_pick Z) (gB 0 (gV (ret (.int 5)) gNil)) []))
  (mSeq (mSet 4 (mCl (f_l_pick Z) (gB 0 (gV (mFrz (m2 addD (mFrz (mLenV 2)) (ret (.int 1)))) gNil)) []))
  (mSeq (mIf (m2 eqD (mVar 3) (ret (.int 0))) (mRet (bnd (gApp (gV (mVar 1) (gV (mVar 2) gNil)) gNil) (callA (argM 2 0 (fun _ => some []) (f_Doors_of Z))))) (ret .nx))
  (mSeq (mIf (mAnd (m2 eqD (mVar 3) (ret (.int 1))) (m2 ltD (mFrz (mLenV 2)) (ret (.int 4)))) (mRet (mCl (f_l_spelled Z) (gV (mVar 1) (gV (mVar 2) gNil)) [])) (ret .nx))
  (mSeq (mIf (m2 eqD (mVar 3) (ret (.int 2))) (mRet (mOwnB (disp1 Z.Doors (argM 2 0 (fun _ => some []) (f_Doors_add Z))) (rV (mFrz (bnd (gApp (gV (mVar 1) (gV (mFrz (mSlV 2 (ret none) (mPart (mVar 4)))) gNil)) gNil) (callA (argM 2 0 (fun _ => some []) (f_Doors_of Z)))))) (mFrz (bnd (gApp (gV (mVar 1) (gV (mFrz (mSlV 2 (mPart (mVar 4)) (ret none))) gNil)) gNil) (callA (argM 2 0 (fun _ => some []) (f_Doors_of Z))))))) (ret .nx))
  (mSeq (mSet 5 (bnd (gApp (gV (mVar 1) (gV (mFrz (mSlV 2 (ret none) (mPart (mVar 4)))) gNil)) gNil) (callA (argM 2 0 (fun _ => some []) (f_Doors_of Z)))))
  (mSeq (mIf (m2 eqD (mVar 3) (ret (.int 3))) (mSeq (mAugO (disp1 Z.Doors (argM 2 0 (fun _ => some []) (f_Doors_add Z))) 5 (mFrz (bnd (gApp (gV (mVar 1) (gV (mFrz (mSlV 2 (mPart (mVar 4)) (ret none))) gNil)) gNil) (callA (argM 2 0 (fun _ => some []) (f_Doors_of Z))))))
  (mRet (mMove 5))) (ret .nx))
  (mSeq (mFor (mItems (mFrz (mSlV 2 (mPart (mVar 4)) (ret none)))) (gNm 6) (mSet 5 (mMth (some "behind") (disp1 Z.Doors (argM 2 0 (fun _ => some []) (f_Doors_behind Z))) (rB 5) (gApp (gV (mVar 6) gNil) gNil))))
  (mRet (mMove 5))))))))))
def f_l_made (Z : Cs) : FM := fnM 4 (b_l_made Z)
theorem ok_l_made (T : Txt K mg Z) : FnG P w K mg base (L2.CX P w) 10 T.a_l_made T.d_l_made ["pot", "fir", "gates"] (spM K 3 (f_l_made Z)) :=
  have S := sc_l_made
  def_ok T.D_l_made S rfl fun cdv A outer s H E ρ hgd hr tk hp =>
  (vss_cons (vs_set (i := 3) S.nd rfl (Or.inl rfl) (ve_call (l := 2) ((ok_l_pick T).mono (by decide)) hgd hr (by rfl) T.g_l_pick T.D_l_pick.kp T.b_l_pick .nil (fun _ => .nil) tk (vag_b 0 (pv 0) (vag_v vd_int vag_nil)) (agl_b (agl_v agl_nil))))
  (vss_cons (vs_set (i := 4) S.nd rfl (Or.inl rfl) (ve_call (l := 2) ((ok_l_pick T).mono (by decide)) hgd hr (by rfl) T.g_l_pick T.D_l_pick.kp T.b_l_pick .nil (fun _ => .nil) tk (vag_b 0 (pv 0) (vag_v (vd_frz (ve_add (vd_frz (ve_lenV 2 (by rfl) T.n_len (pv 2))) vd_int)) vag_nil)) (agl_b (agl_v agl_nil))))
  (vss_cons (vs_if (vt_eq hr.units (vd_var (pv 3)) vd_int) (vss_one (vs_ret (ve_static T.sm_Doors_of (by rfl) T.g_Doors (cal_fn (FnC.mono (fnc_of (n := 2) (dvs := []) (dds := []) (ok_Doors_of T) T.b_Doors_of .nil (fun _ => .nil) rfl) (by decide)) hgd hr tk) (vak_args (ks := []) (vag_v (vd_var (pv 1)) (vag_v (vd_var (pv 2)) vag_nil)) vkg_nil agl_nil)))) vss_nil)
  (vss_cons (vs_if (vt_w (vw_and (vt_eq hr.units (vd_var (pv 3)) vd_int) (vw_and1 (vt_lt (vd_frz (ve_lenV 2 (by rfl) T.n_len (pv 2))) vd_int)))) (vss_one (vs_ret (ve_call (l := 2) ((ok_l_spelled T).mono (by decide)) hgd hr (by rfl) T.g_l_spelled T.D_l_spelled.kp T.b_l_spelled .nil (fun _ => .nil) tk (vag_v (vd_var (pv 1)) (vag_v (vd_var (pv 2)) vag_nil)) (agl_v (agl_v agl_nil))))) vss_nil)
  (vss_cons (vs_if (vt_eq hr.units (vd_var (pv 3)) vd_int) (vss_one (vs_ret (ve_binO (vr_v (vd_frz (ve_static T.sm_Doors_of (by rfl) T.g_Doors (cal_fn (FnC.mono (fnc_of (n := 2) (dvs := []) (dds := []) (ok_Doors_of T) T.b_Doors_of .nil (fun _ => .nil) rfl) (by decide)) hgd hr tk) (vak_args (ks := []) (vag_v (vd_var (pv 1)) (vag_v (vd_frz (ve_sliceV 2 (pv 2) vp_none (vp_some (vd_var (pv 4))))) vag_nil)) vkg_nil agl_nil)))) (vd_frz (ve_static T.sm_Doors_of (by rfl) T.g_Doors (cal_fn (FnC.mono (fnc_of (n := 2) (dvs := []) (dds := []) (ok_Doors_of T) T.b_Doors_of .nil (fun _ => .nil) rfl) (by decide)) hgd hr tk) (vak_args (ks := []) (vag_v (vd_var (pv 1)) (vag_v (vd_frz (ve_sliceV 2 (pv 2) (vp_some (vd_var (pv 4))) vp_none)) vag_nil)) vkg_nil agl_nil))) (disp_one ⟨_, T.sf_Doors, T.dun_Doors_add, (cal_fn (FnC.mono (fnc_of (n := 2) (dvs := []) (dds := []) (ok_Doors_add T) T.b_Doors_add .nil (fun _ => .nil) rfl) (by decide)) hgd hr tk)⟩)))) vss_nil)
  (vss_cons (vs_set (i := 5) S.nd rfl (Or.inl rfl) (ve_static T.sm_Doors_of (by rfl) T.g_Doors (cal_fn (FnC.mono (fnc_of (n := 2) (dvs := []) (dds := []) (ok_Doors_of T) T.b_Doors_of .nil (fun _ => .nil) rfl) (by decide)) hgd hr tk) (vak_args (ks := []) (vag_v (vd_var (pv 1)) (vag_v (vd_frz (ve_sliceV 2 (pv 2) vp_none (vp_some (vd_var (pv 4))))) vag_nil)) vkg_nil agl_nil)))
  (vss_cons (vs_if (vt_eq hr.units (vd_var (pv 3)) vd_int) (vss_cons (vs_augO (i := 5) S.nd rfl (Or.inl rfl) (vd_frz (ve_static T.sm_Doors_of (by rfl) T.g_Doors (cal_fn (FnC.mono (fnc_of (n := 2) (dvs := []) (dds := []) (ok_Doors_of T) T.b_Doors_of .nil (fun _ => .nil) rfl) (by decide)) hgd hr tk) (vak_args (ks := []) (vag_v (vd_var (pv 1)) (vag_v (vd_frz (ve_sliceV 2 (pv 2) (vp_some (vd_var (pv 4))) vp_none)) vag_nil)) vkg_nil agl_nil))) (disp_one ⟨_, T.sf_Doors, T.noin_Doors_Add, T.dun_Doors_add, (cal_fn (FnC.mono (fnc_of (n := 2) (dvs := []) (dds := []) (ok_Doors_add T) T.b_Doors_add .nil (fun _ => .nil) rfl) (by decide)) hgd hr tk)⟩))
  (vss_one (vs_ret (ve_move (pv 5))))) vss_nil)
  (vss_cons (vs_for hp rfl (vi_seq (vd_frz (ve_sliceV 2 (pv 2) (vp_some (vd_var (pv 4))) vp_none))) (vg_name (i := 6) S.nd rfl (Or.inl rfl)) (vss_one (vs_set (i := 5) S.nd rfl (Or.inl rfl) (ve_meth (vr_b 5 (pv 5)) (disp_one ⟨_, T.c_Doors, T.meth_Doors_behind, (cal_fn (FnC.mono (fnc_of (n := 2) (dvs := []) (dds := []) (ok_Doors_behind T) T.b_Doors_behind .nil (fun _ => .nil) rfl) (by decide)) hgd hr tk)⟩) (vak_args (ks := []) (vag_v (vd_var (pv 6)) vag_nil) vkg_nil agl_nil)))))
  (vss_one (vs_ret (ve_move (pv 5))))))))))))
theorem sc_Doors_len : FnScope ["self"] ["self"] (defScope (inC (top 29) 5)) := ⟨rfl, rfl, rfl, by decide +kernel, rfl, by decide +kernel, by decide +kernel⟩
def b_Doors_len (Z : Cs) : M Out := (mRet (mCal fnLen (mCons (mFld (fun c => c == Z.Doors) "gates" (rB 0)) mNil)))
def f_Doors_len (Z : Cs) : FM := fnM 0 (b_Doors_len Z)
theorem ok_Doors_len (T : Txt K mg Z) : FnG P w K mg base (L2.CX P w) 1 T.a_Doors_len T.d_Doors_len ["self"] (spM K 1 (f_Doors_len Z)) :=
  have S := sc_Doors_len
  def_ok T.D_Doors_len S rfl fun cdv A outer s H E ρ hgd hr tk hp =>
  (vss_one (vs_ret (ve_len (by rfl) T.n_len (vd_fld (vr_b 0 (pv 0)) (cs_one ⟨T.c_Doors, T.noat_Doors_gates⟩)))))
theorem sc_Doors_tree : FnScope ["self"] ["self"] (defScope (inC (top 29) 2)) := ⟨rfl, rfl, rfl, by decide +kernel, rfl, by decide +kernel, by decide +kernel⟩
def b_Doors_tree (Z : Cs) : M Out := (mRet (mFr (mFld (fun c => c == Z.Doors) "ground" (rB 0))))
def f_Doors_tree (Z : Cs) : FM := fnM 0 (b_Doors_tree Z)
theorem ok_Doors_tree (T : Txt K mg Z) : FnG P w K mg base (L2.CX P w) 1 T.a_Doors_tree T.d_Doors_tree ["self"] (spM K 1 (f_Doors_tree Z)) :=
  have S := sc_Doors_tree
  def_ok T.D_Doors_tree S rfl fun cdv A outer s H E ρ hgd hr tk hp =>
  (vss_one (vs_ret (ve_fr (vd_fld (vr_b 0 (pv 0)) (cs_one ⟨T.c_Doors, T.noat_Doors_ground⟩)))))
theorem sc_Doors_doors : FnScope ["self"] ["self"] (defScope (inC (top 29) 3)) := ⟨rfl, rfl, rfl, by decide +kernel, rfl, by decide +kernel, by decide +kernel⟩
def b_Doors_doors (Z : Cs) : M Out := (mRet (mFr (mFld (fun c => c == Z.Doors) "gates" (rB 0))))
def f_Doors_doors (Z : Cs) : FM := fnM 0 (b_Doors_doors Z)
theorem ok_Doors_doors (T : Txt K mg Z) : FnG P w K mg base (L2.CX P w) 1 T.a_Doors_doors T.d_Doors_doors ["self"] (spM K 1 (f_Doors_doors Z)) :=
  have S := sc_Doors_doors
  def_ok T.D_Doors_doors S rfl fun cdv A outer s H E ρ hgd hr tk hp =>
  (vss_one (vs_ret (ve_fr (vd_fld (vr_b 0 (pv 0)) (cs_one ⟨T.c_Doors, T.noat_Doors_gates⟩)))))
theorem sc_Doors_getitem : FnScope ["self", "k"] ["self", "k"] (defScope (inC (top 29) 7)) := ⟨rfl, rfl, rfl, by decide +kernel, rfl, by decide +kernel, by decide +kernel⟩
def b_Doors_getitem (Z : Cs) : M Out := (mSeq (mIf (mOr (mNot (mTst (mIs isIntD (mVar 1)))) (mOr (mTst (mIs isBoolD (mVar 1))) (mNot (mCh false leD ltD (ret (.int 0)) (mVar 1) (mFrz (mCal fnLen (mCons (mFld (fun c => c == Z.Doors) "gates" (rB 0)) mNil))))))) (fun _ => none) (ret .nx))
  (mRet (mFr (m2 idxD (mFld (fun c => c == Z.Doors) "gates" (rB 0)) (mVar 1)))))
def f_Doors_getitem (Z : Cs) : FM := fnM 0 (b_Doors_getitem Z)
theorem ok_Doors_getitem (T : Txt K mg Z) : FnG P w K mg base (L2.CX P w) 1 T.a_Doors_getitem T.d_Doors_getitem ["self", "k"] (spM K 2 (f_Doors_getitem Z)) :=
  have S := sc_Doors_getitem
  def_ok T.D_Doors_getitem S rfl fun cdv A outer s H E ρ hgd hr tk hp =>
  (vss_cons (vs_if (vt_w (vw_or (vt_not (vt_val (vd_is ty_int (by rfl) T.n_isinstance (by rfl) T.n_int (by decide +kernel) (vd_var (pv 1))))) (vw_or (vt_val (vd_is ty_bool (by rfl) T.n_isinstance (by rfl) T.n_bool (by decide +kernel) (vd_var (pv 1)))) (vw_or1 (vt_not (vt_chain op_le op_lt opv_cmpI opv_cmpI vd_int (vd_var (pv 1)) (vd_frz (ve_len (by rfl) T.n_len (vd_fld (vr_b 0 (pv 0)) (cs_one ⟨T.c_Doors, T.noat_Doors_gates⟩)))))))))) (vss_one vs_never) vss_nil)
  (vss_one (vs_ret (ve_fr (vd_ix (vd_fld (vr_b 0 (pv 0)) (cs_one ⟨T.c_Doors, T.noat_Doors_gates⟩)) (vd_var (pv 1)))))))
theorem sc_l_fields : FnScope ["made", "fir", "gates", "k"] ["made", "fir", "gates"] (defScope (top 39)) := ⟨rfl, rfl, rfl, by decide +kernel, rfl, by decide +kernel, by decide +kernel⟩
def b_l_fields (Z : Cs) : M Out := (mSeq (mIf (mOr (m2 neD (mFrz (mCal fnRepr (mCons (mFrz (mPrp (disp1 Z.Doors (argM 1 0 (fun _ => some []) (f_Doors_tree Z))) (rB 0))) mNil))) (mFrz (mCal fnRepr (mCons (mVar 1) mNil)))) (mOr (m2 neD (mFrz (mCal fnRepr (mCons (mFrz (mPrp (disp1 Z.Doors (argM 1 0 (fun _ => some []) (f_Doors_doors Z))) (rB 0))) mNil))) (mFrz (mCal fnRepr (mCons (mVar 2) mNil)))) (m2 neD (mFrz (mLenO (disp1 Z.Doors (argM 1 0 (fun _ => some []) (f_Doors_len Z))) (rB 0))) (mFrz (mLenV 2))))) (mRet (mFr (ret (.bl false)))) (ret .nx))
  (mRet (mFr (m2 (bD eqD) (mFrz (mCal fnRepr (mCons (mFrz (mLc (m1 rng1 (mFrz (mLenV 2))) 3 (ret true) (mFrz (mOwn2 (disp1 Z.Doors (argM 2 0 (fun _ => some []) (f_Doors_getitem Z))) (rB 0) (mVar 3))))) mNil))) (mFrz (mCal fnRepr (mCons (mFrz (mCal fnList (mCons (mVar 2) mNil))) mNil)))))))
def f_l_fields (Z : Cs) : FM := fnM 1 (b_l_fields Z)
theorem ok_l_fields (T : Txt K mg Z) : FnG P w K mg base (L2.CX P w) 3 T.a_l_fields T.d_l_fields ["made", "fir", "gates"] (spM K 3 (f_l_fields Z)) :=
  have S := sc_l_fields
  def_ok T.D_l_fields S rfl fun cdv A outer s H E ρ hgd hr tk hp =>
  (vss_cons (vs_if (vt_w (vw_or (vt_ne hr.units (vd_frz (ve_repr hgd hr.units (by rfl) T.n_repr (vd_frz (ve_prop (vr_b 0 (pv 0)) (disp_one ⟨_, _, T.c_Doors, T.prop_Doors_tree, (fnc_of (n := 1) (dvs := []) (dds := []) (ok_Doors_tree T) T.b_Doors_tree .nil (fun _ => .nil) rfl)⟩) hgd (hr.mono (by decide)))))) (vd_frz (ve_repr hgd hr.units (by rfl) T.n_repr (vd_var (pv 1))))) (vw_or (vt_ne hr.units (vd_frz (ve_repr hgd hr.units (by rfl) T.n_repr (vd_frz (ve_prop (vr_b 0 (pv 0)) (disp_one ⟨_, _, T.c_Doors, T.prop_Doors_doors, (fnc_of (n := 1) (dvs := []) (dds := []) (ok_Doors_doors T) T.b_Doors_doors .nil (fun _ => .nil) rfl)⟩) hgd (hr.mono (by decide)))))) (vd_frz (ve_repr hgd hr.units (by rfl) T.n_repr (vd_var (pv 2))))) (vw_or1 (vt_ne hr.units (vd_frz (ve_lenO (by rfl) T.n_len (vr_b 0 (pv 0)) (disp_one ⟨_, T.dun_Doors_len, (cal_fn1 (FnC.mono (fnc_of (n := 1) (dvs := []) (dds := []) (ok_Doors_len T) T.b_Doors_len .nil (fun _ => .nil) rfl) (by decide)) hgd hr tk)⟩))) (vd_frz (ve_lenV 2 (by rfl) T.n_len (pv 2)))))))) (vss_one (vs_ret (ve_fr vd_bl))) vss_nil)
  (vss_one (vs_ret (ve_fr (vd_eq hr.units (vd_frz (ve_repr hgd hr.units (by rfl) T.n_repr (vd_frz (ve_lc rfl S.nd (vi_range1 (by rfl) T.n_range (vd_frz (ve_lenV 2 (by rfl) T.n_len (pv 2)))) (blkOk_by (N := ["made", "fir", "gates", "k"]) (sc := defScope (top 39)) (own := [("k", 3)]) (by decide +kernel)) (fun _ _ _ _ _ => pg_name (i := 3) S.nd rfl (Or.inl rfl)) (fun _ _ _ _ _ => vts_nil) (fun _ _ _ _ _ => (vd_frz (ve_itemO (vr_b 0 (pv 0)) (vd_var (pv 3)) (disp_one ⟨_, T.dun_Doors_getitem, (cal_fn1 (FnC.mono (fnc_of (n := 2) (dvs := []) (dds := []) (ok_Doors_getitem T) T.b_Doors_getitem .nil (fun _ => .nil) rfl) (by decide)) hgd hr takes0)⟩) (fun _ _ => by with_unfolding_all rfl)))))))) (vd_frz (ve_repr hgd hr.units (by rfl) T.n_repr (vd_frz (ve_list (by rfl) T.n_list (vd_var (pv 2)))))))))))
theorem sc_l_grown : FnScope ["one", "two", "fir", "gates", "more", "gate", "both", "held", "longer"] ["one", "two", "fir", "gates", "more", "gate"] (defScope (top 40)) := ⟨rfl, rfl, rfl, by decide +kernel, rfl, by decide +kernel, by decide +kernel⟩
def b_l_grown (Z : Cs) : M Out := (mSeq (mSet 6 (mOwnB (disp1 Z.Doors (argM 2 0 (fun _ => some []) (f_Doors_add Z))) (rB 0) (mVar 1)))
  (mSeq (mSet 7 (mFr (mVar 0)))
  (mSeq (mAugO (disp1 Z.Doors (argM 2 0 (fun _ => some []) (f_Doors_add Z))) 0 (mVar 1))
  (mSeq (mSet 8 (mMth (some "behind") (disp1 Z.Doors (kwM 1 1 [0] (f_Doors_behind Z))) (rB 7) (gApp gNil (gV (mVar 5) gNil))))
  (mSeq (mIf (mOr (mNot (mTst (mFrz (mCl (f_l_fields Z) (gV (mVar 6) (gV (mVar 2) (gV (mFrz (m2 addD (mVar 3) (mVar 4))) gNil))) [])))) (mNot (mTst (mFrz (mCl (f_l_fields Z) (gV (mVar 0) (gV (mVar 2) (gV (mFrz (m2 addD (mVar 3) (mVar 4))) gNil))) []))))) (mRet (mFr (ret (.bl false)))) (ret .nx))
  (mSeq (mIf (mOr (mNot (mTst (mFrz (mCl (f_l_fields Z) (gV (mVar 8) (gV (mVar 2) (gV (mFrz (m2 addD (mVar 3) (mTup (mCons (mVar 5) mNil)))) gNil))) [])))) (mNot (mTst (mFrz (mCl (f_l_fields Z) (gV (mVar 7) (gV (mVar 2) (gV (mVar 3) gNil))) []))))) (mRet (mFr (ret (.bl false)))) (ret .nx))
  (mRet (mFr (mAndV (mFrz (mCl (f_l_fields Z) (gV (mVar 1) (gV (mVar 2) (gV (mVar 4) gNil))) [])) (mFrz (mCl (f_l_fields Z) (gV (mFrz (mOwnB (disp1 Z.Doors (argM 2 0 (fun _ => some []) (f_Doors_add Z))) (rB 6) (mVar 7))) (gV (mVar 2) (gV (mFrz (m2 addD (mFrz (m2 addD (mVar 3) (mVar 4))) (mVar 3))) gNil))) [])))))))))))
def f_l_grown (Z : Cs) : FM := fnM 3 (b_l_grown Z)
theorem ok_l_grown (T : Txt K mg Z) : FnG P w K mg base (L2.CX P w) 10 T.a_l_grown T.d_l_grown ["one", "two", "fir", "gates", "more", "gate"] (spM K 6 (f_l_grown Z)) :=
  have S := sc_l_grown
  def_ok T.D_l_grown S rfl fun cdv A outer s H E ρ hgd hr tk hp =>
  (vss_cons (vs_set (i := 6) S.nd rfl (Or.inl rfl) (ve_binO (vr_b 0 (pv 0)) (vd_var (pv 1)) (disp_one ⟨_, T.sf_Doors, T.dun_Doors_add, (cal_fn (FnC.mono (fnc_of (n := 2) (dvs := []) (dds := []) (ok_Doors_add T) T.b_Doors_add .nil (fun _ => .nil) rfl) (by decide)) hgd hr tk)⟩)))
  (vss_cons (vs_set (i := 7) S.nd rfl (Or.inl rfl) (ve_fr (vd_var (pv 0))))
  (vss_cons (vs_augO (i := 0) S.nd rfl (Or.inl rfl) (vd_var (pv 1)) (disp_one ⟨_, T.sf_Doors, T.noin_Doors_Add, T.dun_Doors_add, (cal_fn (FnC.mono (fnc_of (n := 2) (dvs := []) (dds := []) (ok_Doors_add T) T.b_Doors_add .nil (fun _ => .nil) rfl) (by decide)) hgd hr tk)⟩))
  (vss_cons (vs_set (i := 8) S.nd rfl (Or.inl rfl) (ve_meth (vr_b 7 (pv 7)) (disp_one ⟨_, T.c_Doors, T.meth_Doors_behind, (cal_fn (FnC.mono (fnc_pick (n := 1) (ks := ["door"]) (ok_Doors_behind T) T.D_Doors_behind [0] (fun _ _ _ _ _ _ us ws h1 h2 => match us, ws, h1, h2 with | [u0], [w0], _, _ => rfl) (fun zs h => match zs, h with | [_], _ => rfl)) (by decide)) hgd hr tk)⟩) (vak_none (ks := ["door"]) (vkg_v (vd_var (pv 5)) vkg_nil) (agl_v agl_nil))))
  (vss_cons (vs_if (vt_w (vw_or (vt_not (vt_val (vd_frz (ve_call (l := 3) ((ok_l_fields T).mono (by decide)) hgd hr (by rfl) T.g_l_fields T.D_l_fields.kp T.b_l_fields .nil (fun _ => .nil) tk (vag_v (vd_var (pv 6)) (vag_v (vd_var (pv 2)) (vag_v (vd_frz (ve_add (vd_var (pv 3)) (vd_var (pv 4)))) vag_nil))) (agl_v (agl_v (agl_v agl_nil))))))) (vw_or1 (vt_not (vt_val (vd_frz (ve_call (l := 3) ((ok_l_fields T).mono (by decide)) hgd hr (by rfl) T.g_l_fields T.D_l_fields.kp T.b_l_fields .nil (fun _ => .nil) tk (vag_v (vd_var (pv 0)) (vag_v (vd_var (pv 2)) (vag_v (vd_frz (ve_add (vd_var (pv 3)) (vd_var (pv 4)))) vag_nil))) (agl_v (agl_v (agl_v agl_nil)))))))))) (vss_one (vs_ret (ve_fr vd_bl))) vss_nil)
  (vss_cons (vs_if (vt_w (vw_or (vt_not (vt_val (vd_frz (ve_call (l := 3) ((ok_l_fields T).mono (by decide)) hgd hr (by rfl) T.g_l_fields T.D_l_fields.kp T.b_l_fields .nil (fun _ => .nil) tk (vag_v (vd_var (pv 8)) (vag_v (vd_var (pv 2)) (vag_v (vd_frz (ve_add (vd_var (pv 3)) (vd_tup (va_cons (vd_var (pv 5)) va_nil)))) vag_nil))) (agl_v (agl_v (agl_v agl_nil))))))) (vw_or1 (vt_not (vt_val (vd_frz (ve_call (l := 3) ((ok_l_fields T).mono (by decide)) hgd hr (by rfl) T.g_l_fields T.D_l_fields.kp T.b_l_fields .nil (fun _ => .nil) tk (vag_v (vd_var (pv 7)) (vag_v (vd_var (pv 2)) (vag_v (vd_var (pv 3)) vag_nil))) (agl_v (agl_v (agl_v agl_nil)))))))))) (vss_one (vs_ret (ve_fr vd_bl))) vss_nil)
  (vss_one (vs_ret (ve_fr (vd_and (vd_frz (ve_call (l := 3) ((ok_l_fields T).mono (by decide)) hgd hr (by rfl) T.g_l_fields T.D_l_fields.kp T.b_l_fields .nil (fun _ => .nil) tk (vag_v (vd_var (pv 1)) (vag_v (vd_var (pv 2)) (vag_v (vd_var (pv 4)) vag_nil))) (agl_v (agl_v (agl_v agl_nil))))) (vd_one (vd_frz (ve_call (l := 3) ((ok_l_fields T).mono (by decide)) hgd hr (by rfl) T.g_l_fields T.D_l_fields.kp T.b_l_fields .nil (fun _ => .nil) tk (vag_v (vd_frz (ve_binO (vr_b 6 (pv 6)) (vd_var (pv 7)) (disp_one ⟨_, T.sf_Doors, T.dun_Doors_add, (cal_fn (FnC.mono (fnc_of (n := 2) (dvs := []) (dds := []) (ok_Doors_add T) T.b_Doors_add .nil (fun _ => .nil) rfl) (by decide)) hgd hr tk)⟩))) (vag_v (vd_var (pv 2)) (vag_v (vd_frz (ve_add (vd_frz (ve_add (vd_var (pv 3)) (vd_var (pv 4)))) (vd_var (pv 3)))) vag_nil))) (agl_v (agl_v (agl_v agl_nil))))))))))))))))
theorem sc_law : FnScope ["script", "cell", "pot", "fir", "gates", "more", "one", "two", "gate", "eight", "long"] ["script"] (defScope (top 41)) := ⟨rfl, rfl, rfl, by decide +kernel, rfl, by decide +kernel, by decide +kernel⟩
def b_law (Z : Cs) : M Out := (mSeq (mFor (mItems (mFrz (m2 addD (mFrz (mLst (mCons (ret (.int 918273645546372819203847566574839201029384)) mNil))) (mFrz (mSlV 0 (ret none) (mPart (ret (.int 8)))))))) (gNm 1) (mSeq (mSet 2 (mCl (f_l_pot Z) (gV (mVar 1) gNil) []))
  (mSeq (mSet 3 (mCl (f_l_drawn_fir Z) (gB 2 (gV (ret (.int 10)) gNil)) []))
  (mSeq (mSet 4 (mCl (f_l_drawn_row Z) (gB 2 (gV (mFrz (mLenV 3)) (gV (ret (.int 6)) (gV (ret (.int 4)) gNil)))) []))
  (mSeq (mSet 5 (mCl (f_l_drawn_row Z) (gB 2 (gV (mFrz (mLenV 3)) (gV (ret (.int 6)) (gV (ret (.int 4)) gNil)))) []))
  (mSeq (mSet 6 (mCl (f_l_made Z) (gB 2 (gV (mVar 3) (gV (mVar 4) gNil))) []))
  (mSeq (mSet 7 (mCl (f_l_made Z) (gB 2 (gV (mVar 3) (gV (mVar 5) gNil))) []))
  (mSeq (mIf (mOr (mNot (mTst (mFrz (mCl (f_l_fields Z) (gV (mVar 6) (gV (mVar 3) (gV (mVar 4) gNil))) [])))) (mNot (mTst (mFrz (mCl (f_l_fields Z) (gV (mVar 7) (gV (mVar 3) (gV (mVar 5) gNil))) []))))) (mRet (mFr (ret (.bl false)))) (ret .nx))
  (mSeq (mSet 8 (mCl (f_l_drawn_gate Z) (gB 2 (gV (mFrz (mLenV 3)) (gV (ret (.int 6)) gNil))) []))
  (mSeq (mIf (mNot (mTst (mFrz (mCl (f_l_grown Z) (gV (mVar 6) (gV (mVar 7) (gV (mVar 3) (gV (mVar 4) (gV (mVar 5) (gV (mVar 8) gNil)))))) [])))) (mRet (mFr (ret (.bl false)))) (ret .nx))
  (mSeq (mIf (mOr (mNot (mTst (mFrz (mCl (f_l_fields Z) (gV (mFrz (bnd (gApp gNil (gV (mVar 5) (gV (mVar 3) gNil))) (callA (kwM 0 2 [1, 0] (f_Doors_of Z))))) (gV (mVar 3) (gV (mVar 5) gNil))) [])))) (mNot (mTst (mFrz (mCl (f_l_fields Z) (gV (mFrz (bnd (gApp gNil (gV (mVar 3) gNil)) (callA (mkM Z.Doors (argM 1 1 (selD (selAll ["tree"] 1)) (f_Doors_init Z)))))) (gV (mVar 3) (gV (mTup mNil) gNil))) []))))) (mRet (mFr (ret (.bl false)))) (ret .nx))
  (mSeq (mIf (mNot (mTst (mFrz (mCl (f_l_fields Z) (gV (mFrz (mMthS "of" (disp1 Z.Doors (argM 2 0 (fun _ => some []) (f_Doors_of Z))) (rB 6) (gApp (gV (mVar 3) (gV (mVar 5) gNil)) gNil))) (gV (mVar 3) (gV (mVar 5) gNil))) [])))) (mRet (mFr (ret (.bl false)))) (ret .nx))
  (mSeq (mSet 9 (mSl (mFrz (m2 addD (mFrz (m2 addD (mVar 4) (mVar 5))) (mFrz (m2 mulD (mTup (mCons (mVar 8) mNil)) (ret (.int 8)))))) (ret none) (mPart (ret (.int 8)))))
  (mSeq (mSet 10 (bnd (gApp (gV (mVar 3) (gV (mV2 idxD 9 (ret (.int 0))) (gV (mV2 idxD 9 (ret (.int 1))) (gV (mV2 idxD 9 (ret (.int 2))) (gV (mV2 idxD 9 (ret (.int 3))) (gV (mV2 idxD 9 (ret (.int 4))) (gV (mV2 idxD 9 (ret (.int 5))) (gV (mV2 idxD 9 (ret (.int 6))) (gV (mV2 idxD 9 (ret (.int 7))) gNil))))))))) gNil) (callA (mkM Z.Doors (anyM 2 fun j => argM 2 j (selD (selRest 2 j)) (f_Doors_init Z))))))
  (mIf (mOr (mNot (mTst (mFrz (mCl (f_l_fields Z) (gV (mVar 10) (gV (mVar 3) (gV (mVar 9) gNil))) [])))) (mOr (mNot (mTst (mFrz (mCl (f_l_fields Z) (gV (mVar 6) (gV (mVar 3) (gV (mVar 4) gNil))) [])))) (mNot (mTst (mFrz (mCl (f_l_fields Z) (gV (mVar 7) (gV (mVar 3) (gV (mVar 5) gNil))) [])))))) (mRet (mFr (ret (.bl false)))) (ret .nx))))))))))))))))
  (mRet (mFr (ret (.bl true)))))
def f_law (Z : Cs) : FM := fnM 10 (b_law Z)
theorem ok_law (T : Txt K mg Z) : FnG P w K mg base (L2.CX P w) 11 T.a_law T.d_law ["script"] (spM K 1 (f_law Z)) :=
  have S := sc_law
  def_ok T.D_law S rfl fun cdv A outer s H E ρ hgd hr tk hp =>
  (vss_cons (vs_for hp rfl (vi_seq (vd_frz (ve_add (vd_frz (ve_lst (va_cons vd_int va_nil))) (vd_frz (ve_sliceV 0 (pv 0) vp_none (vp_some vd_int)))))) (vg_name (i := 1) S.nd rfl (Or.inl rfl)) (vss_cons (vs_set (i := 2) S.nd rfl (Or.inl rfl) (ve_call (l := 1) ((ok_l_pot T).mono (by decide)) hgd hr (by rfl) T.g_l_pot T.D_l_pot.kp T.b_l_pot .nil (fun _ => .nil) tk (vag_v (vd_var (pv 1)) vag_nil) (agl_v agl_nil)))
  (vss_cons (vs_set (i := 3) S.nd rfl (Or.inl rfl) (ve_call (l := 2) ((ok_l_drawn_fir T).mono (by decide)) hgd hr (by rfl) T.g_l_drawn_fir T.D_l_drawn_fir.kp T.b_l_drawn_fir .nil (fun _ => .nil) tk (vag_b 2 (pv 2) (vag_v vd_int vag_nil)) (agl_b (agl_v agl_nil))))
  (vss_cons (vs_set (i := 4) S.nd rfl (Or.inl rfl) (ve_call (l := 4) ((ok_l_drawn_row T).mono (by decide)) hgd hr (by rfl) T.g_l_drawn_row T.D_l_drawn_row.kp T.b_l_drawn_row .nil (fun _ => .nil) tk (vag_b 2 (pv 2) (vag_v (vd_frz (ve_lenV 3 (by rfl) T.n_len (pv 3))) (vag_v vd_int (vag_v vd_int vag_nil)))) (agl_b (agl_v (agl_v (agl_v agl_nil))))))
  (vss_cons (vs_set (i := 5) S.nd rfl (Or.inl rfl) (ve_call (l := 4) ((ok_l_drawn_row T).mono (by decide)) hgd hr (by rfl) T.g_l_drawn_row T.D_l_drawn_row.kp T.b_l_drawn_row .nil (fun _ => .nil) tk (vag_b 2 (pv 2) (vag_v (vd_frz (ve_lenV 3 (by rfl) T.n_len (pv 3))) (vag_v vd_int (vag_v vd_int vag_nil)))) (agl_b (agl_v (agl_v (agl_v agl_nil))))))
  (vss_cons (vs_set (i := 6) S.nd rfl (Or.inl rfl) (ve_call (l := 3) ((ok_l_made T).mono (by decide)) hgd hr (by rfl) T.g_l_made T.D_l_made.kp T.b_l_made .nil (fun _ => .nil) tk (vag_b 2 (pv 2) (vag_v (vd_var (pv 3)) (vag_v (vd_var (pv 4)) vag_nil))) (agl_b (agl_v (agl_v agl_nil)))))
  (vss_cons (vs_set (i := 7) S.nd rfl (Or.inl rfl) (ve_call (l := 3) ((ok_l_made T).mono (by decide)) hgd hr (by rfl) T.g_l_made T.D_l_made.kp T.b_l_made .nil (fun _ => .nil) tk (vag_b 2 (pv 2) (vag_v (vd_var (pv 3)) (vag_v (vd_var (pv 5)) vag_nil))) (agl_b (agl_v (agl_v agl_nil)))))
  (vss_cons (vs_if (vt_w (vw_or (vt_not (vt_val (vd_frz (ve_call (l := 3) ((ok_l_fields T).mono (by decide)) hgd hr (by rfl) T.g_l_fields T.D_l_fields.kp T.b_l_fields .nil (fun _ => .nil) tk (vag_v (vd_var (pv 6)) (vag_v (vd_var (pv 3)) (vag_v (vd_var (pv 4)) vag_nil))) (agl_v (agl_v (agl_v agl_nil))))))) (vw_or1 (vt_not (vt_val (vd_frz (ve_call (l := 3) ((ok_l_fields T).mono (by decide)) hgd hr (by rfl) T.g_l_fields T.D_l_fields.kp T.b_l_fields .nil (fun _ => .nil) tk (vag_v (vd_var (pv 7)) (vag_v (vd_var (pv 3)) (vag_v (vd_var (pv 5)) vag_nil))) (agl_v (agl_v (agl_v agl_nil)))))))))) (vss_one (vs_ret (ve_fr vd_bl))) vss_nil)
  (vss_cons (vs_set (i := 8) S.nd rfl (Or.inl rfl) (ve_call (l := 3) ((ok_l_drawn_gate T).mono (by decide)) hgd hr (by rfl) T.g_l_drawn_gate T.D_l_drawn_gate.kp T.b_l_drawn_gate .nil (fun _ => .nil) tk (vag_b 2 (pv 2) (vag_v (vd_frz (ve_lenV 3 (by rfl) T.n_len (pv 3))) (vag_v vd_int vag_nil))) (agl_b (agl_v (agl_v agl_nil)))))
  (vss_cons (vs_if (vt_not (vt_val (vd_frz (ve_call (l := 6) ((ok_l_grown T).mono (by decide)) hgd hr (by rfl) T.g_l_grown T.D_l_grown.kp T.b_l_grown .nil (fun _ => .nil) tk (vag_v (vd_var (pv 6)) (vag_v (vd_var (pv 7)) (vag_v (vd_var (pv 3)) (vag_v (vd_var (pv 4)) (vag_v (vd_var (pv 5)) (vag_v (vd_var (pv 8)) vag_nil)))))) (agl_v (agl_v (agl_v (agl_v (agl_v (agl_v agl_nil)))))))))) (vss_one (vs_ret (ve_fr vd_bl))) vss_nil)
  (vss_cons (vs_if (vt_w (vw_or (vt_not (vt_val (vd_frz (ve_call (l := 3) ((ok_l_fields T).mono (by decide)) hgd hr (by rfl) T.g_l_fields T.D_l_fields.kp T.b_l_fields .nil (fun _ => .nil) tk (vag_v (vd_frz (ve_static T.sm_Doors_of (by rfl) T.g_Doors (cal_fn (FnC.mono (fnc_pick (n := 0) (ks := ["doors", "tree"]) (ok_Doors_of T) T.D_Doors_of [1, 0] (fun _ _ _ _ _ _ us ws h1 h2 => match us, ws, h1, h2 with | [], [w0, w1], _, _ => rfl) (fun zs h => match zs, h with | [_, _], _ => rfl)) (by decide)) hgd hr tk) (vak_none (ks := ["doors", "tree"]) (vkg_v (vd_var (pv 5)) (vkg_v (vd_var (pv 3)) vkg_nil)) (agl_v (agl_v agl_nil))))) (vag_v (vd_var (pv 3)) (vag_v (vd_var (pv 5)) vag_nil))) (agl_v (agl_v (agl_v agl_nil))))))) (vw_or1 (vt_not (vt_val (vd_frz (ve_call (l := 3) ((ok_l_fields T).mono (by decide)) hgd hr (by rfl) T.g_l_fields T.D_l_fields.kp T.b_l_fields .nil (fun _ => .nil) tk (vag_v (vd_frz (ve_callN (cal_cls (k := 6) T.mk_Doors (sk_Doors_init T) hgd (hr.mono (by decide)) tk) T.mk_Doors.kp (by rfl) T.g_Doors (vak_none (ks := ["tree"]) (vkg_v (vd_var (pv 3)) vkg_nil) (agl_v agl_nil)))) (vag_v (vd_var (pv 3)) (vag_v (vd_tup va_nil) vag_nil))) (agl_v (agl_v (agl_v agl_nil)))))))))) (vss_one (vs_ret (ve_fr vd_bl))) vss_nil)
  (vss_cons (vs_if (vt_not (vt_val (vd_frz (ve_call (l := 3) ((ok_l_fields T).mono (by decide)) hgd hr (by rfl) T.g_l_fields T.D_l_fields.kp T.b_l_fields .nil (fun _ => .nil) tk (vag_v (vd_frz (ve_statI (vr_b 6 (pv 6)) (disp_one ⟨_, _, T.si_Doors_of, (cal_fn (FnC.mono (fnc_of (n := 2) (dvs := []) (dds := []) (ok_Doors_of T) T.b_Doors_of .nil (fun _ => .nil) rfl) (by decide)) hgd hr tk)⟩) (vak_args (ks := []) (vag_v (vd_var (pv 3)) (vag_v (vd_var (pv 5)) vag_nil)) vkg_nil agl_nil))) (vag_v (vd_var (pv 3)) (vag_v (vd_var (pv 5)) vag_nil))) (agl_v (agl_v (agl_v agl_nil))))))) (vss_one (vs_ret (ve_fr vd_bl))) vss_nil)
  (vss_cons (vs_set (i := 9) S.nd rfl (Or.inl rfl) (ve_slice (vd_frz (ve_add (vd_frz (ve_add (vd_var (pv 4)) (vd_var (pv 5)))) (vd_frz (ve_mul (vd_tup (va_cons (vd_var (pv 8)) va_nil)) vd_int)))) vp_none (vp_some vd_int)))
  (vss_cons (vs_set (i := 10) S.nd rfl (Or.inl rfl) (ve_callN (cal_cls (k := 6) T.mk_Doors (sa_Doors_init T) hgd (hr.mono (by decide)) tk) T.mk_Doors.kp (by rfl) T.g_Doors (vak_args (ks := []) (vag_v (vd_var (pv 3)) (vag_v (vd_ixV 9 (pv 9) vd_int) (vag_v (vd_ixV 9 (pv 9) vd_int) (vag_v (vd_ixV 9 (pv 9) vd_int) (vag_v (vd_ixV 9 (pv 9) vd_int) (vag_v (vd_ixV 9 (pv 9) vd_int) (vag_v (vd_ixV 9 (pv 9) vd_int) (vag_v (vd_ixV 9 (pv 9) vd_int) (vag_v (vd_ixV 9 (pv 9) vd_int) vag_nil))))))))) vkg_nil agl_nil)))
  (vss_one (vs_if (vt_w (vw_or (vt_not (vt_val (vd_frz (ve_call (l := 3) ((ok_l_fields T).mono (by decide)) hgd hr (by rfl) T.g_l_fields T.D_l_fields.kp T.b_l_fields .nil (fun _ => .nil) tk (vag_v (vd_var (pv 10)) (vag_v (vd_var (pv 3)) (vag_v (vd_var (pv 9)) vag_nil))) (agl_v (agl_v (agl_v agl_nil))))))) (vw_or (vt_not (vt_val (vd_frz (ve_call (l := 3) ((ok_l_fields T).mono (by decide)) hgd hr (by rfl) T.g_l_fields T.D_l_fields.kp T.b_l_fields .nil (fun _ => .nil) tk (vag_v (vd_var (pv 6)) (vag_v (vd_var (pv 3)) (vag_v (vd_var (pv 4)) vag_nil))) (agl_v (agl_v (agl_v agl_nil))))))) (vw_or1 (vt_not (vt_val (vd_frz (ve_call (l := 3) ((ok_l_fields T).mono (by decide)) hgd hr (by rfl) T.g_l_fields T.D_l_fields.kp T.b_l_fields .nil (fun _ => .nil) tk (vag_v (vd_var (pv 7)) (vag_v (vd_var (pv 3)) (vag_v (vd_var (pv 5)) vag_nil))) (agl_v (agl_v (agl_v agl_nil))))))))))) (vss_one (vs_ret (ve_fr vd_bl))) vss_nil))))))))))))))))
  (vss_one (vs_ret (ve_fr vd_bl))))
end Law
end
section
set_option maxHeartbeats 0
namespace Law
open PySem PySem.Spec PyProof.Rows L2 L3
def e_l_pot : He5.DefA := ⟨fun K => He.ga K "_law_pot", "_law_pot", "_law_pot", defArgs (top 31), defBody (top 31), defScope (top 31), [], []⟩
def e_l_pick : He5.DefA := ⟨fun K => He.ga K "_law_pick", "_law_pick", "_law_pick", defArgs (top 32), defBody (top 32), defScope (top 32), [], []⟩
def e_l_drawn_fir : He5.DefA := ⟨fun K => He.ga K "_law_drawn_fir", "_law_drawn_fir", "_law_drawn_fir", defArgs (top 33), defBody (top 33), defScope (top 33), [], []⟩
def e_l_drawn_asks : He5.DefA := ⟨fun K => He.ga K "_law_drawn_asks", "_law_drawn_asks", "_law_drawn_asks", defArgs (top 34), defBody (top 34), defScope (top 34), [], []⟩
def e_l_drawn_gate : He5.DefA := ⟨fun K => He.ga K "_law_drawn_gate", "_law_drawn_gate", "_law_drawn_gate", defArgs (top 35), defBody (top 35), defScope (top 35), [], []⟩
def e_l_drawn_row : He5.DefA := ⟨fun K => He.ga K "_law_drawn_row", "_law_drawn_row", "_law_drawn_row", defArgs (top 36), defBody (top 36), defScope (top 36), [], []⟩
def e_is_integer : He5.DefA := ⟨fun K => He.ga K "is_integer", "is_integer", "is_integer", defArgs (top 9), defBody (top 9), defScope (top 9), [], []⟩
def e_is_tree : He5.DefA := ⟨fun K => He.ga K "is_tree", "is_tree", "is_tree", defArgs (top 10), defBody (top 10), defScope (top 10), [], []⟩
def e_need_tree : He5.DefA := ⟨fun K => He.ga K "need_tree", "need_tree", "need_tree", defArgs (top 11), defBody (top 11), defScope (top 11), [], []⟩
def e_is_spot : He5.DefA := ⟨fun K => He.ga K "is_spot", "is_spot", "is_spot", defArgs (top 20), defBody (top 20), defScope (top 20), [], []⟩
def e_is_spots : He5.DefA := ⟨fun K => He.ga K "is_spots", "is_spots", "is_spots", defArgs (top 21), defBody (top 21), defScope (top 21), [], []⟩
def e_is_swaps : He5.DefA := ⟨fun K => He.ga K "is_swaps", "is_swaps", "is_swaps", defArgs (top 22), defBody (top 22), defScope (top 22), [], []⟩
def e_locale_there : He5.DefA := ⟨fun K => He.ga K "locale_there", "locale_there", "locale_there", defArgs (top 12), defBody (top 12), defScope (top 12), [], []⟩
def e_wishes_there : He5.DefA := ⟨fun K => He.ga K "wishes_there", "wishes_there", "wishes_there", defArgs (top 13), defBody (top 13), defScope (top 13), [], []⟩
def e_is_wishes : He5.DefA := ⟨fun K => He.ga K "is_wishes", "is_wishes", "is_wishes", defArgs (top 15), defBody (top 15), defScope (top 15), [], []⟩
def e_door_fits : He5.DefA := ⟨fun K => He.ga K "door_fits", "door_fits", "door_fits", defArgs (top 23), defBody (top 23), defScope (top 23), [], []⟩
def e_Doors_init : He5.DefA := ⟨fun K => He.ma K (He.ga K "Doors") "__init__", "__init__", "Doors.__init__", defArgs (inC (top 29) 0), defBody (inC (top 29) 0), defScope (inC (top 29) 0), [], []⟩
def e_Doors_of : He5.DefA := ⟨fun K => He5.wf K (He.ga K "Doors") "staticmethod" "of", "of", "Doors.of", defArgs (inC (top 29) 1), defBody (inC (top 29) 1), defScope (inC (top 29) 1), [], []⟩
def e_Doors_need_like : He5.DefA := ⟨fun K => He.ma K (He.ga K "Doors") "need_like", "need_like", "Doors.need_like", defArgs (inC (top 29) 10), defBody (inC (top 29) 10), defScope (inC (top 29) 10), [], []⟩
def e_Doors_add : He5.DefA := ⟨fun K => He.ma K (He.ga K "Doors") "__add__", "__add__", "Doors.__add__", defArgs (inC (top 29) 8), defBody (inC (top 29) 8), defScope (inC (top 29) 8), [], []⟩
def e_l_spelled : He5.DefA := ⟨fun K => He.ga K "_law_spelled", "_law_spelled", "_law_spelled", defArgs (top 37), defBody (top 37), defScope (top 37), [], []⟩
def e_Doors_behind : He5.DefA := ⟨fun K => He.ma K (He.ga K "Doors") "behind", "behind", "Doors.behind", defArgs (inC (top 29) 13), defBody (inC (top 29) 13), defScope (inC (top 29) 13), [], []⟩
def e_l_made : He5.DefA := ⟨fun K => He.ga K "_law_made", "_law_made", "_law_made", defArgs (top 38), defBody (top 38), defScope (top 38), [], []⟩
def e_Doors_len : He5.DefA := ⟨fun K => He.ma K (He.ga K "Doors") "__len__", "__len__", "Doors.__len__", defArgs (inC (top 29) 5), defBody (inC (top 29) 5), defScope (inC (top 29) 5), [], []⟩
def e_Doors_tree : He5.DefA := ⟨fun K => He5.wf K (He.ga K "Doors") "property" "tree", "tree", "Doors.tree", defArgs (inC (top 29) 2), defBody (inC (top 29) 2), defScope (inC (top 29) 2), [], []⟩
def e_Doors_doors : He5.DefA := ⟨fun K => He5.wf K (He.ga K "Doors") "property" "doors", "doors", "Doors.doors", defArgs (inC (top 29) 3), defBody (inC (top 29) 3), defScope (inC (top 29) 3), [], []⟩
def e_Doors_getitem : He5.DefA := ⟨fun K => He.ma K (He.ga K "Doors") "__getitem__", "__getitem__", "Doors.__getitem__", defArgs (inC (top 29) 7), defBody (inC (top 29) 7), defScope (inC (top 29) 7), [], []⟩
def e_l_fields : He5.DefA := ⟨fun K => He.ga K "_law_fields", "_law_fields", "_law_fields", defArgs (top 39), defBody (top 39), defScope (top 39), [], []⟩
def e_l_grown : He5.DefA := ⟨fun K => He.ga K "_law_grown", "_law_grown", "_law_grown", defArgs (top 40), defBody (top 40), defScope (top 40), [], []⟩
def e_law : He5.DefA := ⟨fun K => He.ga K "law", "law", "law", defArgs (top 41), defBody (top 41), defScope (top 41), [], []⟩
def fn : List He5.DefA := [e_l_pot, e_l_pick, e_l_drawn_fir, e_l_drawn_asks, e_l_drawn_gate, e_l_drawn_row, e_is_integer, e_is_tree, e_need_tree, e_is_spot, e_is_spots, e_is_swaps, e_locale_there, e_wishes_there, e_is_wishes, e_door_fits, e_Doors_init, e_Doors_of, e_Doors_need_like, e_Doors_add, e_l_spelled, e_Doors_behind, e_l_made, e_Doors_len, e_Doors_tree, e_Doors_doors, e_Doors_getitem, e_l_fields, e_l_grown, e_law]
def fb (K : PySem.W.Frag) : List Bool := [
  (He.Fa.cls "Doors").ok K,
  (He.Fa.noat "Doors" "ground").ok K,
  (He.Fa.noat "Doors" "gates").ok K,
  (He.Fa.mkr "Doors").ok K,
  (He.Fa.glo "Doors").ok K,
  notBB K (He.ga K "Doors"),
  isiB K (He.ga K "Doors"),
  kitB2 K (He.ga K "Doors") (He.ga K "Doors") true,
  (He.Fa.meth "Doors" "need_like").ok K,
  smB K (He.ga K "Doors") "of",
  PySem.W.selfFirst K (He.ga K "Doors"),
  dunB K (He.ga K "Doors") "__add__",
  noIn K (He.ga K "Doors") .Add,
  (He.Fa.meth "Doors" "behind").ok K,
  propB K (He.ga K "Doors") "tree",
  propB K (He.ga K "Doors") "doors",
  dunB K (He.ga K "Doors") "__len__",
  dunB K (He.ga K "Doors") "__getitem__",
  siB K (He.ga K "Doors") "of",
  (He.Fa.glo "_law_pot").ok K,
  (He.Fa.glo "_law_pick").ok K,
  (He.Fa.glo "_law_drawn_fir").ok K,
  (He.Fa.glo "_law_drawn_asks").ok K,
  (He.Fa.glo "_law_drawn_gate").ok K,
  (He.Fa.glo "_law_drawn_row").ok K,
  (He.Fa.glo "is_integer").ok K,
  (He.Fa.glo "is_tree").ok K,
  (He.Fa.glo "need_tree").ok K,
  (He.Fa.glo "is_spot").ok K,
  (He.Fa.glo "is_spots").ok K,
  (He.Fa.glo "is_swaps").ok K,
  (He.Fa.glo "locale_there").ok K,
  (He.Fa.glo "wishes_there").ok K,
  (He.Fa.glo "is_wishes").ok K,
  (He.Fa.glo "door_fits").ok K,
  (He.Fa.glo "_law_spelled").ok K,
  (He.Fa.glo "_law_made").ok K,
  (He.Fa.glo "_law_fields").ok K,
  (He.Fa.glo "_law_grown").ok K,
  (He.Fa.glo "law").ok K,
  (He.Fa.free "abs").ok K,
  (He.Fa.free "bool").ok K,
  (He.Fa.free "enumerate").ok K,
  (He.Fa.free "int").ok K,
  (He.Fa.free "isinstance").ok K,
  (He.Fa.free "len").ok K,
  (He.Fa.free "list").ok K,
  (He.Fa.free "max").ok K,
  (He.Fa.free "min").ok K,
  (He.Fa.free "range").ok K,
  (He.Fa.free "repr").ok K,
  (He.Fa.free "set").ok K,
  (He.Fa.free "sorted").ok K,
  (He.Fa.free "str").ok K,
  (He.Fa.free "sum").ok K,
  (He.Fa.free "tuple").ok K,
  (He.Fa.free "zip").ok K]
abbrev R : PySem.W.OpenRow := PySem.W.OpenLaw.row PySem.Challenge.rw_wishedtongues_k53_rows_made
abbrev hk : PySem.W.Hook := hookX 6 (fun K => andAll (fb K)) fn
def ob (s : PySem.W.SharedT) : He.AlD := obsXG 6 (fun K => andAll (fb K)) fn (HandSHeadRun.getT s)
theorem ob_eq (s : PySem.W.SharedT) : ob s = hk.obs s.abs := obsXG_eq (HandSHeadRun.getT_eq s)
def loose : List Str := (["_wall", "WishError", "InvalidTree", "InvalidWishes", "InvalidDoor", "InvalidIndex", "Unlike", "is_integer", "is_tree", "need_tree", "locale_there", "wishes_there", "need_wishes", "is_wishes", "path_of", "slim_of", "short_lists", "is_spot", "is_spots", "is_swaps", "door_fits", "lift_of", "swap_of", "passed", "passed_all", "first_parting", "Doors", "_law_pot", "_law_pick", "_law_drawn_fir"] : List Str) ++ (["_law_drawn_asks", "_law_drawn_gate", "_law_drawn_row", "_law_spelled", "_law_made", "_law_fields", "_law_grown"] : List Str)
theorem run (w : World) : HandSHeadRun.RunEq R (PySem.W.view R.prog [41]) hk ob 4000 loose w := by
  intro os
  kernel_rfl
theorem facts {K : PySem.W.Frag} {h : Heap} {mg : Str → Option Value} (X : K.In h) (G : h.Ns mainGlobals mg) (c : SaysX (fun K => andAll (fb K)) fn K) : ∃ (Z : Cs) (T : Txt K mg Z), T.a_law = He.ga K "law" ∧ ∀ (s : Shared) (u : Value), BindsTo s T.d_law ⟨[u], []⟩ [("script", u)] := by
  obtain ⟨d_l_pot, D_l_pot⟩ := c.fun_ 0 (d := e_l_pot) rfl
  obtain ⟨d_l_pick, D_l_pick⟩ := c.fun_ 1 (d := e_l_pick) rfl
  obtain ⟨d_l_drawn_fir, D_l_drawn_fir⟩ := c.fun_ 2 (d := e_l_drawn_fir) rfl
  obtain ⟨d_l_drawn_asks, D_l_drawn_asks⟩ := c.fun_ 3 (d := e_l_drawn_asks) rfl
  obtain ⟨d_l_drawn_gate, D_l_drawn_gate⟩ := c.fun_ 4 (d := e_l_drawn_gate) rfl
  obtain ⟨d_l_drawn_row, D_l_drawn_row⟩ := c.fun_ 5 (d := e_l_drawn_row) rfl
  obtain ⟨d_is_integer, D_is_integer⟩ := c.fun_ 6 (d := e_is_integer) rfl
  obtain ⟨d_is_tree, D_is_tree⟩ := c.fun_ 7 (d := e_is_tree) rfl
  obtain ⟨d_need_tree, D_need_tree⟩ := c.fun_ 8 (d := e_need_tree) rfl
  obtain ⟨d_is_spot, D_is_spot⟩ := c.fun_ 9 (d := e_is_spot) rfl
  obtain ⟨d_is_spots, D_is_spots⟩ := c.fun_ 10 (d := e_is_spots) rfl
  obtain ⟨d_is_swaps, D_is_swaps⟩ := c.fun_ 11 (d := e_is_swaps) rfl
  obtain ⟨d_locale_there, D_locale_there⟩ := c.fun_ 12 (d := e_locale_there) rfl
  obtain ⟨d_wishes_there, D_wishes_there⟩ := c.fun_ 13 (d := e_wishes_there) rfl
  obtain ⟨d_is_wishes, D_is_wishes⟩ := c.fun_ 14 (d := e_is_wishes) rfl
  obtain ⟨d_door_fits, D_door_fits⟩ := c.fun_ 15 (d := e_door_fits) rfl
  obtain ⟨d_Doors_init, D_Doors_init⟩ := c.fun_ 16 (d := e_Doors_init) rfl
  obtain ⟨d_Doors_of, D_Doors_of⟩ := c.fun_ 17 (d := e_Doors_of) rfl
  obtain ⟨d_Doors_need_like, D_Doors_need_like⟩ := c.fun_ 18 (d := e_Doors_need_like) rfl
  obtain ⟨d_Doors_add, D_Doors_add⟩ := c.fun_ 19 (d := e_Doors_add) rfl
  obtain ⟨d_l_spelled, D_l_spelled⟩ := c.fun_ 20 (d := e_l_spelled) rfl
  obtain ⟨d_Doors_behind, D_Doors_behind⟩ := c.fun_ 21 (d := e_Doors_behind) rfl
  obtain ⟨d_l_made, D_l_made⟩ := c.fun_ 22 (d := e_l_made) rfl
  obtain ⟨d_Doors_len, D_Doors_len⟩ := c.fun_ 23 (d := e_Doors_len) rfl
  obtain ⟨d_Doors_tree, D_Doors_tree⟩ := c.fun_ 24 (d := e_Doors_tree) rfl
  obtain ⟨d_Doors_doors, D_Doors_doors⟩ := c.fun_ 25 (d := e_Doors_doors) rfl
  obtain ⟨d_Doors_getitem, D_Doors_getitem⟩ := c.fun_ 26 (d := e_Doors_getitem) rfl
  obtain ⟨d_l_fields, D_l_fields⟩ := c.fun_ 27 (d := e_l_fields) rfl
  obtain ⟨d_l_grown, D_l_grown⟩ := c.fun_ 28 (d := e_l_grown) rfl
  obtain ⟨d_law, D_law⟩ := c.fun_ 29 (d := e_law) rfl
  have bb := c.bool
  have at_ : ∀ (i : Nat) {x : Bool}, (fb K)[i]? = some x → x = true := fun i {x} e => andAll_at i bb e
  have h0 := He.cls_ok (at_ 0 rfl)
  have h1 := He.noat_ok (at_ 1 rfl)
  have h2 := He.noat_ok (at_ 2 rfl)
  have h3 := He.mkr_ok (at_ 3 rfl)
  have h4 := He.glo_ok X G (at_ 4 rfl)
  have h5 := notB_of (at_ 5 rfl)
  have h6 := isi_of (He.cls_ok (at_ 0 rfl)) (at_ 6 rfl)
  have h7 := of_decide_eq_true (at_ 7 rfl)
  have h8 := He.meth_ok (at_ 8 rfl)
  have h9 := smet_of (at_ 9 rfl)
  have h10 := (at_ 10 rfl)
  have h11 := dun_of (at_ 11 rfl)
  have h12 := (at_ 12 rfl)
  have h13 := He.meth_ok (at_ 13 rfl)
  have h14 := prop_of (at_ 14 rfl)
  have h15 := prop_of (at_ 15 rfl)
  have h16 := dun_of (at_ 16 rfl)
  have h17 := dun_of (at_ 17 rfl)
  have h18 := sinst_of (He.cls_ok (at_ 0 rfl)) (at_ 18 rfl) (at_ 9 rfl)
  have h19 := He.glo_ok X G (at_ 19 rfl)
  have h20 := He.glo_ok X G (at_ 20 rfl)
  have h21 := He.glo_ok X G (at_ 21 rfl)
  have h22 := He.glo_ok X G (at_ 22 rfl)
  have h23 := He.glo_ok X G (at_ 23 rfl)
  have h24 := He.glo_ok X G (at_ 24 rfl)
  have h25 := He.glo_ok X G (at_ 25 rfl)
  have h26 := He.glo_ok X G (at_ 26 rfl)
  have h27 := He.glo_ok X G (at_ 27 rfl)
  have h28 := He.glo_ok X G (at_ 28 rfl)
  have h29 := He.glo_ok X G (at_ 29 rfl)
  have h30 := He.glo_ok X G (at_ 30 rfl)
  have h31 := He.glo_ok X G (at_ 31 rfl)
  have h32 := He.glo_ok X G (at_ 32 rfl)
  have h33 := He.glo_ok X G (at_ 33 rfl)
  have h34 := He.glo_ok X G (at_ 34 rfl)
  have h35 := He.glo_ok X G (at_ 35 rfl)
  have h36 := He.glo_ok X G (at_ 36 rfl)
  have h37 := He.glo_ok X G (at_ 37 rfl)
  have h38 := He.glo_ok X G (at_ 38 rfl)
  have h39 := He.glo_ok X G (at_ 39 rfl)
  have h40 := He.free_ok X G (at_ 40 rfl)
  have h41 := He.free_ok X G (at_ 41 rfl)
  have h42 := He.free_ok X G (at_ 42 rfl)
  have h43 := He.free_ok X G (at_ 43 rfl)
  have h44 := He.free_ok X G (at_ 44 rfl)
  have h45 := He.free_ok X G (at_ 45 rfl)
  have h46 := He.free_ok X G (at_ 46 rfl)
  have h47 := He.free_ok X G (at_ 47 rfl)
  have h48 := He.free_ok X G (at_ 48 rfl)
  have h49 := He.free_ok X G (at_ 49 rfl)
  have h50 := He.free_ok X G (at_ 50 rfl)
  have h51 := He.free_ok X G (at_ 51 rfl)
  have h52 := He.free_ok X G (at_ 52 rfl)
  have h53 := He.free_ok X G (at_ 53 rfl)
  have h54 := He.free_ok X G (at_ 54 rfl)
  have h55 := He.free_ok X G (at_ 55 rfl)
  have h56 := He.free_ok X G (at_ 56 rfl)
  refine ⟨⟨He.ga K "Doors"⟩, {
    a_l_pot := e_l_pot.at_ K
    d_l_pot := d_l_pot
    D_l_pot := D_l_pot
    g_l_pot := h19
    b_l_pot := D_l_pot.bindsN (fun _ _ _ _ _ _ us hl => match us, hl with | [_], _ => rfl)
    a_l_pick := e_l_pick.at_ K
    d_l_pick := d_l_pick
    D_l_pick := D_l_pick
    g_l_pick := h20
    b_l_pick := D_l_pick.bindsN (fun _ _ _ _ _ _ us hl => match us, hl with | [_, _], _ => rfl)
    a_l_drawn_fir := e_l_drawn_fir.at_ K
    d_l_drawn_fir := d_l_drawn_fir
    D_l_drawn_fir := D_l_drawn_fir
    g_l_drawn_fir := h21
    b_l_drawn_fir := D_l_drawn_fir.bindsN (fun _ _ _ _ _ _ us hl => match us, hl with | [_, _], _ => rfl)
    a_l_drawn_asks := e_l_drawn_asks.at_ K
    d_l_drawn_asks := d_l_drawn_asks
    D_l_drawn_asks := D_l_drawn_asks
    g_l_drawn_asks := h22
    b_l_drawn_asks := D_l_drawn_asks.bindsN (fun _ _ _ _ _ _ us hl => match us, hl with | [_, _, _], _ => rfl)
    a_l_drawn_gate := e_l_drawn_gate.at_ K
    d_l_drawn_gate := d_l_drawn_gate
    D_l_drawn_gate := D_l_drawn_gate
    g_l_drawn_gate := h23
    b_l_drawn_gate := D_l_drawn_gate.bindsN (fun _ _ _ _ _ _ us hl => match us, hl with | [_, _, _], _ => rfl)
    a_l_drawn_row := e_l_drawn_row.at_ K
    d_l_drawn_row := d_l_drawn_row
    D_l_drawn_row := D_l_drawn_row
    g_l_drawn_row := h24
    b_l_drawn_row := D_l_drawn_row.bindsN (fun _ _ _ _ _ _ us hl => match us, hl with | [_, _, _, _], _ => rfl)
    a_is_integer := e_is_integer.at_ K
    d_is_integer := d_is_integer
    D_is_integer := D_is_integer
    g_is_integer := h25
    b_is_integer := D_is_integer.bindsN (fun _ _ _ _ _ _ us hl => match us, hl with | [_], _ => rfl)
    a_is_tree := e_is_tree.at_ K
    d_is_tree := d_is_tree
    D_is_tree := D_is_tree
    g_is_tree := h26
    b_is_tree := D_is_tree.bindsN (fun _ _ _ _ _ _ us hl => match us, hl with | [_], _ => rfl)
    a_need_tree := e_need_tree.at_ K
    d_need_tree := d_need_tree
    D_need_tree := D_need_tree
    g_need_tree := h27
    b_need_tree := D_need_tree.bindsN (fun _ _ _ _ _ _ us hl => match us, hl with | [_], _ => rfl)
    a_is_spot := e_is_spot.at_ K
    d_is_spot := d_is_spot
    D_is_spot := D_is_spot
    g_is_spot := h28
    b_is_spot := D_is_spot.bindsN (fun _ _ _ _ _ _ us hl => match us, hl with | [_, _], _ => rfl)
    a_is_spots := e_is_spots.at_ K
    d_is_spots := d_is_spots
    D_is_spots := D_is_spots
    g_is_spots := h29
    b_is_spots := D_is_spots.bindsN (fun _ _ _ _ _ _ us hl => match us, hl with | [_, _], _ => rfl)
    a_is_swaps := e_is_swaps.at_ K
    d_is_swaps := d_is_swaps
    D_is_swaps := D_is_swaps
    g_is_swaps := h30
    b_is_swaps := D_is_swaps.bindsN (fun _ _ _ _ _ _ us hl => match us, hl with | [_, _], _ => rfl)
    a_locale_there := e_locale_there.at_ K
    d_locale_there := d_locale_there
    D_locale_there := D_locale_there
    g_locale_there := h31
    b_locale_there := D_locale_there.bindsN (fun _ _ _ _ _ _ us hl => match us, hl with | [_, _], _ => rfl)
    a_wishes_there := e_wishes_there.at_ K
    d_wishes_there := d_wishes_there
    D_wishes_there := D_wishes_there
    g_wishes_there := h32
    b_wishes_there := D_wishes_there.bindsN (fun _ _ _ _ _ _ us hl => match us, hl with | [_, _], _ => rfl)
    a_is_wishes := e_is_wishes.at_ K
    d_is_wishes := d_is_wishes
    D_is_wishes := D_is_wishes
    g_is_wishes := h33
    b_is_wishes := D_is_wishes.bindsN (fun _ _ _ _ _ _ us hl => match us, hl with | [_, _], _ => rfl)
    a_door_fits := e_door_fits.at_ K
    d_door_fits := d_door_fits
    D_door_fits := D_door_fits
    g_door_fits := h34
    b_door_fits := D_door_fits.bindsN (fun _ _ _ _ _ _ us hl => match us, hl with | [_, _], _ => rfl)
    a_Doors_init := e_Doors_init.at_ K
    d_Doors_init := d_Doors_init
    D_Doors_init := D_Doors_init
    a_Doors_of := e_Doors_of.at_ K
    d_Doors_of := d_Doors_of
    D_Doors_of := D_Doors_of
    b_Doors_of := D_Doors_of.bindsN (fun _ _ _ _ _ _ us hl => match us, hl with | [_, _], _ => rfl)
    a_Doors_need_like := e_Doors_need_like.at_ K
    d_Doors_need_like := d_Doors_need_like
    D_Doors_need_like := D_Doors_need_like
    b_Doors_need_like := D_Doors_need_like.bindsN (fun _ _ _ _ _ _ us hl => match us, hl with | [_, _], _ => rfl)
    a_Doors_add := e_Doors_add.at_ K
    d_Doors_add := d_Doors_add
    D_Doors_add := D_Doors_add
    b_Doors_add := D_Doors_add.bindsN (fun _ _ _ _ _ _ us hl => match us, hl with | [_, _], _ => rfl)
    a_l_spelled := e_l_spelled.at_ K
    d_l_spelled := d_l_spelled
    D_l_spelled := D_l_spelled
    g_l_spelled := h35
    b_l_spelled := D_l_spelled.bindsN (fun _ _ _ _ _ _ us hl => match us, hl with | [_, _], _ => rfl)
    a_Doors_behind := e_Doors_behind.at_ K
    d_Doors_behind := d_Doors_behind
    D_Doors_behind := D_Doors_behind
    b_Doors_behind := D_Doors_behind.bindsN (fun _ _ _ _ _ _ us hl => match us, hl with | [_, _], _ => rfl)
    a_l_made := e_l_made.at_ K
    d_l_made := d_l_made
    D_l_made := D_l_made
    g_l_made := h36
    b_l_made := D_l_made.bindsN (fun _ _ _ _ _ _ us hl => match us, hl with | [_, _, _], _ => rfl)
    a_Doors_len := e_Doors_len.at_ K
    d_Doors_len := d_Doors_len
    D_Doors_len := D_Doors_len
    b_Doors_len := D_Doors_len.bindsN (fun _ _ _ _ _ _ us hl => match us, hl with | [_], _ => rfl)
    a_Doors_tree := e_Doors_tree.at_ K
    d_Doors_tree := d_Doors_tree
    D_Doors_tree := D_Doors_tree
    b_Doors_tree := D_Doors_tree.bindsN (fun _ _ _ _ _ _ us hl => match us, hl with | [_], _ => rfl)
    a_Doors_doors := e_Doors_doors.at_ K
    d_Doors_doors := d_Doors_doors
    D_Doors_doors := D_Doors_doors
    b_Doors_doors := D_Doors_doors.bindsN (fun _ _ _ _ _ _ us hl => match us, hl with | [_], _ => rfl)
    a_Doors_getitem := e_Doors_getitem.at_ K
    d_Doors_getitem := d_Doors_getitem
    D_Doors_getitem := D_Doors_getitem
    b_Doors_getitem := D_Doors_getitem.bindsN (fun _ _ _ _ _ _ us hl => match us, hl with | [_, _], _ => rfl)
    a_l_fields := e_l_fields.at_ K
    d_l_fields := d_l_fields
    D_l_fields := D_l_fields
    g_l_fields := h37
    b_l_fields := D_l_fields.bindsN (fun _ _ _ _ _ _ us hl => match us, hl with | [_, _, _], _ => rfl)
    a_l_grown := e_l_grown.at_ K
    d_l_grown := d_l_grown
    D_l_grown := D_l_grown
    g_l_grown := h38
    b_l_grown := D_l_grown.bindsN (fun _ _ _ _ _ _ us hl => match us, hl with | [_, _, _, _, _, _], _ => rfl)
    a_law := e_law.at_ K
    d_law := d_law
    D_law := D_law
    g_law := h39
    b_law := D_law.bindsN (fun _ _ _ _ _ _ us hl => match us, hl with | [_], _ => rfl)
    p_Doors_of := He.ma K (He.ga K "Doors") "of"
    p_Doors_tree := He.ma K (He.ga K "Doors") "tree"
    p_Doors_doors := He.ma K (He.ga K "Doors") "doors"
    c_Doors := h0
    noat_Doors_ground := h1
    noat_Doors_gates := h2
    mk_Doors := h3
    g_Doors := h4
    nb_Doors := h5
    isi_Doors := h6
    kit_Doors := h7
    meth_Doors_need_like := h8
    sm_Doors_of := h9
    sf_Doors := h10
    dun_Doors_add := h11
    noin_Doors_Add := h12
    meth_Doors_behind := h13
    prop_Doors_tree := h14
    prop_Doors_doors := h15
    dun_Doors_len := h16
    dun_Doors_getitem := h17
    si_Doors_of := h18
    n_abs := h40
    n_bool := h41
    n_enumerate := h42
    n_int := h43
    n_isinstance := h44
    n_len := h45
    n_list := h46
    n_max := h47
    n_min := h48
    n_range := h49
    n_repr := h50
    n_set := h51
    n_sorted := h52
    n_str := h53
    n_sum := h54
    n_tuple := h55
    n_zip := h56 }, rfl, fun s u => ?_⟩
  exact FunD.bindsA (ps := ["script"]) D_law (fun _ _ _ _ _ _ us hl => match us, hl with | [_], _ => rfl) s [u] rfl
end Law
end
section
set_option exponentiation.threshold 2000
namespace Law
open PySem PySem.Spec PyProof.Rows L2 L3
variable {Z : Cs}
/-! ### the draws -/
def Pot (n : Int) (l : List D) : Prop := ∃ a b c : Int, l = [.int a, .int b, .int c] ∧ 0 ≤ a ∧ 0 ≤ b ∧ b < 1000000000000000000 ∧ 0 ≤ c ∧ c ≤ n
theorem Pot.mono {n m : Int} {l : List D} (h : Pot n l) (e : n ≤ m) : Pot m l := by
  obtain ⟨a, b, c, h1, h2, h3, h4, h5, h6⟩ := h
  exact ⟨a, b, c, h1, h2, h3, h4, h5, Int.le_trans h6 e⟩
theorem mul_bd {x y A B : Int} (h1 : 0 ≤ x) (h2 : x ≤ A) (h3 : 0 ≤ y) (h4 : y ≤ B) : 0 ≤ x * y ∧ x * y ≤ A * B :=
  ⟨Int.mul_nonneg h1 h3, Int.mul_le_mul h2 h4 h3 (Int.le_trans h1 h2)⟩
theorem nat_big {x : Int} (h1 : 0 ≤ x) (h2 : x ≤ 10000000000000000000000000000000000000000000000000000000000000000000000000000000000000000000000000000) : x.natAbs < 2 ^ 1000 := by
  have e : x.natAbs ≤ 10000000000000000000000000000000000000000000000000000000000000000000000000000000000000000000000000000 := by omega
  exact Nat.lt_of_le_of_lt e (by decide +kernel)
theorem pot_spec {c : Int} {Q : Sl → List Sl → Prop} (h : ∀ l, Pot 0 l → Q (.ow none (.lst l)) [.fr (.int c)]) : PostF (f_l_pot Z) [.fr (.int c)] Q := by
  unfold f_l_pot b_l_pot
  simp (decide := true) only [↓k_some, ↓k_no, ↓k_ite, ↓getK_0, ↓getK_s, ↓setK_0, ↓setK_s, ↓ff_0, ↓ff_s, ↓ff_o, ↓fo_l, ↓fo_i, ↓fk_fr, ↓fk_ow, ↓vk_fr, ↓vk_ow, ↓vw_fr, ↓vw_l, ↓mv_fr, ↓mv_ow, ↓sq_nx, ↓sq_bk, ↓sq_ct, ↓sq_rt, ↓fi_rt, ↓fi_nx, ↓ou_0, ↓ou_fr, ↓ou_ow, ↓ou_un, ↓ou_of, ↓ou_on, ↓un_00, ↓un_0s, ↓un_s, ↓rk_fr, ↓rk_un, ↓rk_ow, ↓ak_l, ↓lk_l, ↓si_l, ↓ls_0, ↓ls_s, ↓gb_fr, ↓gb_ow, ↓rb_fr, ↓rb_ow, ↓to_0, ↓to_v, ↓to_b, ↓to_map, ↓to_mapn, ↓tb_fr, ↓tb_ow, ↓bk_0, ↓bk_v, ↓bk_bi, ↓ba_0, ↓ba_s, ↓bk_mapf, ↓bk_mapn, ↓bb_fr, ↓bb_ow, ↓ui_un, ↓set_tag, ↓set_tagf, ↓df_0, ↓sp_0, ↓sp_n, ↓sp_s, ↓fs_0, ↓fs_s, ↓fs_map, ↓ct_0, ↓ct_fr, ↓ct_un, ↓ct_ow, ↓ap_00, ↓ap_0s, ↓ap_s, ↓as_0, ↓as_s, ↓in_v, ↓in_b, ↓ib_fr, ↓ib_ow, ↓fl_v, ↓fr_fd, ↓fl_b, ↓fb_fr, ↓fb_ow, ↓get_look, ↓ln_i, ↓sf_fr, ↓sf_ow, ↓mk_r, ↓w_var, ↓w_view, ↓w_lift, ↓w_frz, ↓w_m1, ↓w_m2, ↓w_mV2, ↓w_m2V, ↓w_tst, ↓w_isN, ↓w_notN, ↓bv_bl, ↓w_andV, ↓w_orV, ↓nv_bl, ↓w_notV, ↓w_ch, ↓pt_i, ↓w_part, ↓w_sl, ↓w_slV, ↓w_cal, ↓w_lenV, ↓w_is, ↓w_isO, ↓w_put, ↓w_set, ↓w_move, ↓w_seq, ↓w_asg, ↓w_app, ↓w_setI, ↓w_items, ↓w_gB, ↓w_rB, ↓w_cl, ↓w_callA, ↓w_gStar, ↓w_fld, ↓get_d1, ↓w_mth, ↓w_mthS, ↓w_prp, ↓w_lenO, ↓w_own2, ↓w_ownB, ↓w_augO, ↓w_setF, ↓w_fn, ↓w_mk, ↓w_arg, ↓w_any, ↓w_kw, ↓selR, ↓selA, ↓sQ_0, ↓sQ_s, ↓st_nx, ↓st_ct, ↓st_bk, ↓st_rt, ↓w_lc, ↓g_ixt, ↓g_ixl, ↓g_ixs, ↓at_0, ↓at_1, ↓at_2, ↓at_3, ↓ix_0, ↓ix_1, ↓ix_2, ↓g_addi, ↓g_adds, ↓g_addt, ↓g_addl, ↓g_muli, ↓g_mult, ↓g_mull, ↓g_sub, ↓g_div, ↓g_mod, ↓g_pow, ↓g_bD, ↓g_lt, ↓g_le, ↓g_gt, ↓g_ge, ↓g_neg, ↓g_bl, ↓g_int, ↓g_lent, ↓g_lenl, ↓g_lens, ↓g_list, ↓g_lisl, ↓g_tupt, ↓g_tupl, ↓g_max, ↓g_min, ↓g_itt, ↓g_itl, ↓g_its, ↓g_slt, ↓g_sll, ↓g_sls, ↓g_rng1, ↓g_rng2, ↓g_enum, ↓g_nm, ↓g_tp, ↓g_gc, ↓g_gn, ↓g_isIntD_non, ↓g_isIntD_bl, ↓g_isIntD_int, ↓g_isIntD_str, ↓g_isIntD_tup, ↓g_isIntD_lst, ↓g_isBoolD_non, ↓g_isBoolD_bl, ↓g_isBoolD_int, ↓g_isBoolD_str, ↓g_isBoolD_tup, ↓g_isBoolD_lst, ↓g_isTupD_non, ↓g_isTupD_bl, ↓g_isTupD_int, ↓g_isTupD_str, ↓g_isTupD_tup, ↓g_isTupD_lst, ↓g_isStrD_non, ↓g_isStrD_bl, ↓g_isStrD_int, ↓g_isStrD_str, ↓g_isStrD_tup, ↓g_isStrD_lst, ↓g_own_non, ↓g_own_bl, ↓g_own_int, ↓g_own_str, ↓g_own_tup, ↓g_own_lst, ↓g_own_ins, ↓g_eqi, ↓g_eqs, ↓g_nei, ↓g_nes, ↓p_bnd, ↓p_ret, ↓p_none, ↓p_fr, ↓p_and, ↓p_or, ↓p_not, ↓p_ifE, ↓p_bl, ↓p_nil, ↓p_cons, ↓p_tup, ↓p_lst, ↓p_drop, ↓p_rt, ↓p_mif, ↓p_for, ↓p_gNil, ↓p_gV, ↓p_gApp, ↓p_rV, ↓p_if, cs_un, cs_fr, List.length_cons, List.length_nil, List.length_map, Nat.zero_add, insD_i, decide_eq_true_eq, Bool.not_eq_true', Bool.not_true, Bool.not_false, decide_eq_false_iff_not, true_and, and_true, ne_eq, not_false_eq_true, List.lookup_cons, Nat.reduceAdd, isN_non, isN_bl, isN_int, isN_str, isN_tup, isN_lst, ↓reduceIte]
  have e1 : (0 : Int) ≤ c % 999999999999999989 := Int.emod_nonneg _ (by decide)
  have e2 : c % 999999999999999989 < 999999999999999989 := Int.emod_lt_of_pos _ (by decide)
  have ep : (10 : Int) ^ Int.toNat 18 = 1000000000000000000 := by decide
  rw [ep]
  split
  · exact h _ ⟨_, _, _, rfl, by omega, e1, by omega, by omega, by omega⟩
  · exact h _ ⟨_, _, _, rfl, by omega, e1, by omega, by omega, by omega⟩
theorem pick_spec {l : List D} {n u : Int} {Q : Sl → List Sl → Prop} (hp : Pot n l) (hn : n ≤ 1000000000000) (hu : 0 < u) (hu2 : u < 1073741824)
    (h : ∀ d l', 0 ≤ d → d < u → Pot (n + 1) l' → Q (.fr (.int d)) [.ow (some 0) (.lst l'), .fr (.int u)]) : PostF (f_l_pick Z) [.ow (some 0) (.lst l), .fr (.int u)] Q := by
  obtain ⟨a, b, c, rfl, h0, hb0, hb, hc0, hc⟩ := hp
  unfold f_l_pick b_l_pick
  simp (decide := true) only [↓k_some, ↓k_no, ↓k_ite, ↓getK_0, ↓getK_s, ↓setK_0, ↓setK_s, ↓ff_0, ↓ff_s, ↓ff_o, ↓fo_l, ↓fo_i, ↓fk_fr, ↓fk_ow, ↓vk_fr, ↓vk_ow, ↓vw_fr, ↓vw_l, ↓mv_fr, ↓mv_ow, ↓sq_nx, ↓sq_bk, ↓sq_ct, ↓sq_rt, ↓fi_rt, ↓fi_nx, ↓ou_0, ↓ou_fr, ↓ou_ow, ↓ou_un, ↓ou_of, ↓ou_on, ↓un_00, ↓un_0s, ↓un_s, ↓rk_fr, ↓rk_un, ↓rk_ow, ↓ak_l, ↓lk_l, ↓si_l, ↓ls_0, ↓ls_s, ↓gb_fr, ↓gb_ow, ↓rb_fr, ↓rb_ow, ↓to_0, ↓to_v, ↓to_b, ↓to_map, ↓to_mapn, ↓tb_fr, ↓tb_ow, ↓bk_0, ↓bk_v, ↓bk_bi, ↓ba_0, ↓ba_s, ↓bk_mapf, ↓bk_mapn, ↓bb_fr, ↓bb_ow, ↓ui_un, ↓set_tag, ↓set_tagf, ↓df_0, ↓sp_0, ↓sp_n, ↓sp_s, ↓fs_0, ↓fs_s, ↓fs_map, ↓ct_0, ↓ct_fr, ↓ct_un, ↓ct_ow, ↓ap_00, ↓ap_0s, ↓ap_s, ↓as_0, ↓as_s, ↓in_v, ↓in_b, ↓ib_fr, ↓ib_ow, ↓fl_v, ↓fr_fd, ↓fl_b, ↓fb_fr, ↓fb_ow, ↓get_look, ↓ln_i, ↓sf_fr, ↓sf_ow, ↓mk_r, ↓w_var, ↓w_view, ↓w_lift, ↓w_frz, ↓w_m1, ↓w_m2, ↓w_mV2, ↓w_m2V, ↓w_tst, ↓w_isN, ↓w_notN, ↓bv_bl, ↓w_andV, ↓w_orV, ↓nv_bl, ↓w_notV, ↓w_ch, ↓pt_i, ↓w_part, ↓w_sl, ↓w_slV, ↓w_cal, ↓w_lenV, ↓w_is, ↓w_isO, ↓w_put, ↓w_set, ↓w_move, ↓w_seq, ↓w_asg, ↓w_app, ↓w_setI, ↓w_items, ↓w_gB, ↓w_rB, ↓w_cl, ↓w_callA, ↓w_gStar, ↓w_fld, ↓get_d1, ↓w_mth, ↓w_mthS, ↓w_prp, ↓w_lenO, ↓w_own2, ↓w_ownB, ↓w_augO, ↓w_setF, ↓w_fn, ↓w_mk, ↓w_arg, ↓w_any, ↓w_kw, ↓selR, ↓selA, ↓sQ_0, ↓sQ_s, ↓st_nx, ↓st_ct, ↓st_bk, ↓st_rt, ↓w_lc, ↓g_ixt, ↓g_ixl, ↓g_ixs, ↓at_0, ↓at_1, ↓at_2, ↓at_3, ↓ix_0, ↓ix_1, ↓ix_2, ↓g_addi, ↓g_adds, ↓g_addt, ↓g_addl, ↓g_muli, ↓g_mult, ↓g_mull, ↓g_sub, ↓g_div, ↓g_mod, ↓g_pow, ↓g_bD, ↓g_lt, ↓g_le, ↓g_gt, ↓g_ge, ↓g_neg, ↓g_bl, ↓g_int, ↓g_lent, ↓g_lenl, ↓g_lens, ↓g_list, ↓g_lisl, ↓g_tupt, ↓g_tupl, ↓g_max, ↓g_min, ↓g_itt, ↓g_itl, ↓g_its, ↓g_slt, ↓g_sll, ↓g_sls, ↓g_rng1, ↓g_rng2, ↓g_enum, ↓g_nm, ↓g_tp, ↓g_gc, ↓g_gn, ↓g_isIntD_non, ↓g_isIntD_bl, ↓g_isIntD_int, ↓g_isIntD_str, ↓g_isIntD_tup, ↓g_isIntD_lst, ↓g_isBoolD_non, ↓g_isBoolD_bl, ↓g_isBoolD_int, ↓g_isBoolD_str, ↓g_isBoolD_tup, ↓g_isBoolD_lst, ↓g_isTupD_non, ↓g_isTupD_bl, ↓g_isTupD_int, ↓g_isTupD_str, ↓g_isTupD_tup, ↓g_isTupD_lst, ↓g_isStrD_non, ↓g_isStrD_bl, ↓g_isStrD_int, ↓g_isStrD_str, ↓g_isStrD_tup, ↓g_isStrD_lst, ↓g_own_non, ↓g_own_bl, ↓g_own_int, ↓g_own_str, ↓g_own_tup, ↓g_own_lst, ↓g_own_ins, ↓g_eqi, ↓g_eqs, ↓g_nei, ↓g_nes, ↓p_bnd, ↓p_ret, ↓p_none, ↓p_fr, ↓p_and, ↓p_or, ↓p_not, ↓p_ifE, ↓p_bl, ↓p_nil, ↓p_cons, ↓p_tup, ↓p_lst, ↓p_drop, ↓p_rt, ↓p_mif, ↓p_for, ↓p_gNil, ↓p_gV, ↓p_gApp, ↓p_rV, ↓p_if, cs_un, cs_fr, List.length_cons, List.length_nil, List.length_map, Nat.zero_add, insD_i, decide_eq_true_eq, Bool.not_eq_true', Bool.not_true, Bool.not_false, decide_eq_false_iff_not, true_and, and_true, ne_eq, not_false_eq_true, List.lookup_cons, Nat.reduceAdd, isN_non, isN_bl, isN_int, isN_str, isN_tup, isN_lst, ↓reduceIte]
  have key : ∀ {x : Int} {a' c' : Int}, 0 ≤ a' → 0 ≤ c' → c' ≤ n + 1 → Q (.fr (.int (x % u))) [Sl.ow (some 0) (.lst [.int a', .int b, .int c']), .fr (.int u)] :=
    fun {x a' c'} h1 h2 h3 => h _ _ (Int.emod_nonneg _ (by omega)) (Int.emod_lt_of_pos _ hu) ⟨_, _, _, rfl, h1, hb0, hb, h2, h3⟩
  split
  · exact ⟨hu, ⟨hu, hu2⟩, key (Int.ediv_nonneg h0 (by omega)) hc0 (by omega)⟩
  · have c1 : 0 ≤ c + 1 ∧ c + 1 ≤ 1000000000001 := by omega
    have t1 := mul_bd (x := 43) (by decide) (Int.le_refl _) c1.1 c1.2
    have t2 := mul_bd t1.1 t1.2 c1.1 c1.2
    have t3 := mul_bd (x := 130363) (by decide) (Int.le_refl _) c1.1 c1.2
    have t4 : 0 ≤ 43 * (c + 1) * (c + 1) + 130363 * (c + 1) + 11 ∧ 43 * (c + 1) * (c + 1) + 130363 * (c + 1) + 11 ≤ 100000000000000000000000000 := by omega
    have t5 : 0 ≤ b + 61 ∧ b + 61 ≤ 10000000000000000000 := by omega
    have t6 := mul_bd t5.1 t5.2 t4.1 t4.2
    have t7 := mul_bd (x := 23) (by decide) (Int.le_refl _) c1.1 c1.2
    have t8 : 0 ≤ (b + 61) * (43 * (c + 1) * (c + 1) + 130363 * (c + 1) + 11) + 23 * (c + 1) ∧ (b + 61) * (43 * (c + 1) * (c + 1) + 130363 * (c + 1) + 11) + 23 * (c + 1) ≤ 10000000000000000000000000000000000000000000000 := by omega
    revert t8
    generalize (b + 61) * (43 * (c + 1) * (c + 1) + 130363 * (c + 1) + 11) + 23 * (c + 1) = m1
    intro t8
    have t9 : 0 ≤ (m1 * m1 + 524287 * m1) % 1000000000000000003 / 1021 ∧ (m1 * m1 + 524287 * m1) % 1000000000000000003 / 1021 ≤ 1000000000000000003 := by
      have e1 : (0 : Int) ≤ (m1 * m1 + 524287 * m1) % 1000000000000000003 := Int.emod_nonneg _ (by decide)
      have e2 : (m1 * m1 + 524287 * m1) % 1000000000000000003 < 1000000000000000003 := Int.emod_lt_of_pos _ (by decide)
      omega
    revert t9
    generalize (m1 * m1 + 524287 * m1) % 1000000000000000003 / 1021 = m2
    intro t9
    have big : ∀ {x : Int}, 0 ≤ x ∧ x ≤ 10000000000000000000000000000000000000000000000 → x.natAbs < 2 ^ 1000 := fun h => nat_big h.1 (Int.le_trans h.2 (by decide))
    refine ⟨big (by omega), ⟨big (by omega), big (by omega)⟩, big (by omega), ⟨big (by omega), big (by omega)⟩, big (by omega), ⟨big t8, big t8⟩, big t8, ⟨big (by omega), big (by omega)⟩, big (by omega), hu, key h0 (by omega) (by omega)⟩

theorem rngD_at {lo : Int} {n i : Nat} {d : D} (h : (rngD lo n)[i]? = some d) : i < n ∧ d = .int (lo + i) := by
  rw [rngD_get] at h
  split at h
  · rename_i hi
    exact ⟨hi, (Option.some.inj h).symm⟩
  · cases h
theorem rngD_len {lo : Int} {n : Nat} : (rngD lo n).length = n := by simp [rngD]
/-- a tree -/
def IsTree (t : List D) : Prop := ∃ is : List Int, t = .non :: is.map .int ∧ is.length ≤ 9 ∧ ∀ (k : Nat) (i : Int), is[k]? = some i → 0 ≤ i ∧ i ≤ k
theorem sl16 {n : Nat} (h : n ≤ 16777216) : n ≤ sizeLine := h
def Ups (is : List Int) : Prop := ∀ (k : Nat) (i : Int), is[k]? = some i → 0 ≤ i ∧ i ≤ k
theorem Ups.snoc {is : List Int} {z : Int} (h : Ups is) (h0 : 0 ≤ z) (h1 : z ≤ is.length) : Ups (is ++ [z]) := fun k j e => by
  rw [List.getElem?_append] at e
  split at e
  · exact h k j e
  · have hk : k - is.length = 0 := by
      by_cases q : k - is.length = 0
      · exact q
      · rw [List.getElem?_eq_none (by simp; omega)] at e; cases e
    rw [hk] at e
    simp at e
    subst e
    omega
def FirI (n u sz sh : Int) (i : Nat) (a : AS) : Prop := ∃ (l3 : List D) (is : List Int) (x y : Sl), a = [.ow (some 0) (.lst l3), .fr (.int u), .fr (.int sz), .fr (.int sh), .ow none (.lst (.non :: is.map .int)), x, y] ∧ Pot (n + i) l3 ∧ is.length = i ∧ Ups is
theorem fir_spec {l : List D} {n u : Int} {Q : Sl → List Sl → Prop} (hp : Pot n l) (hn : n ≤ 900000000000) (hu : 0 < u) (hu2 : u ≤ 10)
    (h : ∀ t l', IsTree t → (t.length : Int) ≤ u → Pot (n + 20) l' → Q (.fr (.tup t)) [.ow (some 0) (.lst l'), .fr (.int u)]) : PostF (f_l_drawn_fir Z) [.ow (some 0) (.lst l), .fr (.int u)] Q := by
  unfold f_l_drawn_fir b_l_drawn_fir
  simp (decide := true) only [↓k_some, ↓k_no, ↓k_ite, ↓getK_0, ↓getK_s, ↓setK_0, ↓setK_s, ↓ff_0, ↓ff_s, ↓ff_o, ↓fo_l, ↓fo_i, ↓fk_fr, ↓fk_ow, ↓vk_fr, ↓vk_ow, ↓vw_fr, ↓vw_l, ↓mv_fr, ↓mv_ow, ↓sq_nx, ↓sq_bk, ↓sq_ct, ↓sq_rt, ↓fi_rt, ↓fi_nx, ↓ou_0, ↓ou_fr, ↓ou_ow, ↓ou_un, ↓ou_of, ↓ou_on, ↓un_00, ↓un_0s, ↓un_s, ↓rk_fr, ↓rk_un, ↓rk_ow, ↓ak_l, ↓lk_l, ↓si_l, ↓ls_0, ↓ls_s, ↓gb_fr, ↓gb_ow, ↓rb_fr, ↓rb_ow, ↓to_0, ↓to_v, ↓to_b, ↓to_map, ↓to_mapn, ↓tb_fr, ↓tb_ow, ↓bk_0, ↓bk_v, ↓bk_bi, ↓ba_0, ↓ba_s, ↓bk_mapf, ↓bk_mapn, ↓bb_fr, ↓bb_ow, ↓ui_un, ↓set_tag, ↓set_tagf, ↓df_0, ↓sp_0, ↓sp_n, ↓sp_s, ↓fs_0, ↓fs_s, ↓fs_map, ↓ct_0, ↓ct_fr, ↓ct_un, ↓ct_ow, ↓ap_00, ↓ap_0s, ↓ap_s, ↓as_0, ↓as_s, ↓in_v, ↓in_b, ↓ib_fr, ↓ib_ow, ↓fl_v, ↓fr_fd, ↓fl_b, ↓fb_fr, ↓fb_ow, ↓get_look, ↓ln_i, ↓sf_fr, ↓sf_ow, ↓mk_r, ↓w_var, ↓w_view, ↓w_lift, ↓w_frz, ↓w_m1, ↓w_m2, ↓w_mV2, ↓w_m2V, ↓w_tst, ↓w_isN, ↓w_notN, ↓bv_bl, ↓w_andV, ↓w_orV, ↓nv_bl, ↓w_notV, ↓w_ch, ↓pt_i, ↓w_part, ↓w_sl, ↓w_slV, ↓w_cal, ↓w_lenV, ↓w_is, ↓w_isO, ↓w_put, ↓w_set, ↓w_move, ↓w_seq, ↓w_asg, ↓w_app, ↓w_setI, ↓w_items, ↓w_gB, ↓w_rB, ↓w_cl, ↓w_callA, ↓w_gStar, ↓w_fld, ↓get_d1, ↓w_mth, ↓w_mthS, ↓w_prp, ↓w_lenO, ↓w_own2, ↓w_ownB, ↓w_augO, ↓w_setF, ↓w_fn, ↓w_mk, ↓w_arg, ↓w_any, ↓w_kw, ↓selR, ↓selA, ↓sQ_0, ↓sQ_s, ↓st_nx, ↓st_ct, ↓st_bk, ↓st_rt, ↓w_lc, ↓g_ixt, ↓g_ixl, ↓g_ixs, ↓at_0, ↓at_1, ↓at_2, ↓at_3, ↓ix_0, ↓ix_1, ↓ix_2, ↓g_addi, ↓g_adds, ↓g_addt, ↓g_addl, ↓g_muli, ↓g_mult, ↓g_mull, ↓g_sub, ↓g_div, ↓g_mod, ↓g_pow, ↓g_bD, ↓g_lt, ↓g_le, ↓g_gt, ↓g_ge, ↓g_neg, ↓g_bl, ↓g_int, ↓g_lent, ↓g_lenl, ↓g_lens, ↓g_list, ↓g_lisl, ↓g_tupt, ↓g_tupl, ↓g_max, ↓g_min, ↓g_itt, ↓g_itl, ↓g_its, ↓g_slt, ↓g_sll, ↓g_sls, ↓g_rng1, ↓g_rng2, ↓g_enum, ↓g_nm, ↓g_tp, ↓g_gc, ↓g_gn, ↓g_isIntD_non, ↓g_isIntD_bl, ↓g_isIntD_int, ↓g_isIntD_str, ↓g_isIntD_tup, ↓g_isIntD_lst, ↓g_isBoolD_non, ↓g_isBoolD_bl, ↓g_isBoolD_int, ↓g_isBoolD_str, ↓g_isBoolD_tup, ↓g_isBoolD_lst, ↓g_isTupD_non, ↓g_isTupD_bl, ↓g_isTupD_int, ↓g_isTupD_str, ↓g_isTupD_tup, ↓g_isTupD_lst, ↓g_isStrD_non, ↓g_isStrD_bl, ↓g_isStrD_int, ↓g_isStrD_str, ↓g_isStrD_tup, ↓g_isStrD_lst, ↓g_own_non, ↓g_own_bl, ↓g_own_int, ↓g_own_str, ↓g_own_tup, ↓g_own_lst, ↓g_own_ins, ↓g_eqi, ↓g_eqs, ↓g_nei, ↓g_nes, ↓p_bnd, ↓p_ret, ↓p_none, ↓p_fr, ↓p_and, ↓p_or, ↓p_not, ↓p_ifE, ↓p_bl, ↓p_nil, ↓p_cons, ↓p_tup, ↓p_lst, ↓p_drop, ↓p_rt, ↓p_mif, ↓p_for, ↓p_gNil, ↓p_gV, ↓p_gApp, ↓p_rV, ↓p_if, cs_un, cs_fr, List.length_cons, List.length_nil, List.length_map, Nat.zero_add, insD_i, decide_eq_true_eq, Bool.not_eq_true', Bool.not_true, Bool.not_false, decide_eq_false_iff_not, true_and, and_true, ne_eq, not_false_eq_true, List.lookup_cons, Nat.reduceAdd, isN_non, isN_bl, isN_int, isN_str, isN_tup, isN_lst, ↓reduceIte]
  refine pick_spec hp (by omega) (by omega) (by omega) fun d1 l1 a1 a2 p1 => ?_
  simp (decide := true) only [↓k_some, ↓k_no, ↓k_ite, ↓getK_0, ↓getK_s, ↓setK_0, ↓setK_s, ↓ff_0, ↓ff_s, ↓ff_o, ↓fo_l, ↓fo_i, ↓fk_fr, ↓fk_ow, ↓vk_fr, ↓vk_ow, ↓vw_fr, ↓vw_l, ↓mv_fr, ↓mv_ow, ↓sq_nx, ↓sq_bk, ↓sq_ct, ↓sq_rt, ↓fi_rt, ↓fi_nx, ↓ou_0, ↓ou_fr, ↓ou_ow, ↓ou_un, ↓ou_of, ↓ou_on, ↓un_00, ↓un_0s, ↓un_s, ↓rk_fr, ↓rk_un, ↓rk_ow, ↓ak_l, ↓lk_l, ↓si_l, ↓ls_0, ↓ls_s, ↓gb_fr, ↓gb_ow, ↓rb_fr, ↓rb_ow, ↓to_0, ↓to_v, ↓to_b, ↓to_map, ↓to_mapn, ↓tb_fr, ↓tb_ow, ↓bk_0, ↓bk_v, ↓bk_bi, ↓ba_0, ↓ba_s, ↓bk_mapf, ↓bk_mapn, ↓bb_fr, ↓bb_ow, ↓ui_un, ↓set_tag, ↓set_tagf, ↓df_0, ↓sp_0, ↓sp_n, ↓sp_s, ↓fs_0, ↓fs_s, ↓fs_map, ↓ct_0, ↓ct_fr, ↓ct_un, ↓ct_ow, ↓ap_00, ↓ap_0s, ↓ap_s, ↓as_0, ↓as_s, ↓in_v, ↓in_b, ↓ib_fr, ↓ib_ow, ↓fl_v, ↓fr_fd, ↓fl_b, ↓fb_fr, ↓fb_ow, ↓get_look, ↓ln_i, ↓sf_fr, ↓sf_ow, ↓mk_r, ↓w_var, ↓w_view, ↓w_lift, ↓w_frz, ↓w_m1, ↓w_m2, ↓w_mV2, ↓w_m2V, ↓w_tst, ↓w_isN, ↓w_notN, ↓bv_bl, ↓w_andV, ↓w_orV, ↓nv_bl, ↓w_notV, ↓w_ch, ↓pt_i, ↓w_part, ↓w_sl, ↓w_slV, ↓w_cal, ↓w_lenV, ↓w_is, ↓w_isO, ↓w_put, ↓w_set, ↓w_move, ↓w_seq, ↓w_asg, ↓w_app, ↓w_setI, ↓w_items, ↓w_gB, ↓w_rB, ↓w_cl, ↓w_callA, ↓w_gStar, ↓w_fld, ↓get_d1, ↓w_mth, ↓w_mthS, ↓w_prp, ↓w_lenO, ↓w_own2, ↓w_ownB, ↓w_augO, ↓w_setF, ↓w_fn, ↓w_mk, ↓w_arg, ↓w_any, ↓w_kw, ↓selR, ↓selA, ↓sQ_0, ↓sQ_s, ↓st_nx, ↓st_ct, ↓st_bk, ↓st_rt, ↓w_lc, ↓g_ixt, ↓g_ixl, ↓g_ixs, ↓at_0, ↓at_1, ↓at_2, ↓at_3, ↓ix_0, ↓ix_1, ↓ix_2, ↓g_addi, ↓g_adds, ↓g_addt, ↓g_addl, ↓g_muli, ↓g_mult, ↓g_mull, ↓g_sub, ↓g_div, ↓g_mod, ↓g_pow, ↓g_bD, ↓g_lt, ↓g_le, ↓g_gt, ↓g_ge, ↓g_neg, ↓g_bl, ↓g_int, ↓g_lent, ↓g_lenl, ↓g_lens, ↓g_list, ↓g_lisl, ↓g_tupt, ↓g_tupl, ↓g_max, ↓g_min, ↓g_itt, ↓g_itl, ↓g_its, ↓g_slt, ↓g_sll, ↓g_sls, ↓g_rng1, ↓g_rng2, ↓g_enum, ↓g_nm, ↓g_tp, ↓g_gc, ↓g_gn, ↓g_isIntD_non, ↓g_isIntD_bl, ↓g_isIntD_int, ↓g_isIntD_str, ↓g_isIntD_tup, ↓g_isIntD_lst, ↓g_isBoolD_non, ↓g_isBoolD_bl, ↓g_isBoolD_int, ↓g_isBoolD_str, ↓g_isBoolD_tup, ↓g_isBoolD_lst, ↓g_isTupD_non, ↓g_isTupD_bl, ↓g_isTupD_int, ↓g_isTupD_str, ↓g_isTupD_tup, ↓g_isTupD_lst, ↓g_isStrD_non, ↓g_isStrD_bl, ↓g_isStrD_int, ↓g_isStrD_str, ↓g_isStrD_tup, ↓g_isStrD_lst, ↓g_own_non, ↓g_own_bl, ↓g_own_int, ↓g_own_str, ↓g_own_tup, ↓g_own_lst, ↓g_own_ins, ↓g_eqi, ↓g_eqs, ↓g_nei, ↓g_nes, ↓p_bnd, ↓p_ret, ↓p_none, ↓p_fr, ↓p_and, ↓p_or, ↓p_not, ↓p_ifE, ↓p_bl, ↓p_nil, ↓p_cons, ↓p_tup, ↓p_lst, ↓p_drop, ↓p_rt, ↓p_mif, ↓p_for, ↓p_gNil, ↓p_gV, ↓p_gApp, ↓p_rV, ↓p_if, cs_un, cs_fr, List.length_cons, List.length_nil, List.length_map, Nat.zero_add, insD_i, decide_eq_true_eq, Bool.not_eq_true', Bool.not_true, Bool.not_false, decide_eq_false_iff_not, true_and, and_true, ne_eq, not_false_eq_true, List.lookup_cons, Nat.reduceAdd, isN_non, isN_bl, isN_int, isN_str, isN_tup, isN_lst, ↓reduceIte]
  refine pick_spec p1 (by omega) (by omega) (by omega) fun d2 l2 b1 b2 p2 => ?_
  simp (decide := true) only [↓k_some, ↓k_no, ↓k_ite, ↓getK_0, ↓getK_s, ↓setK_0, ↓setK_s, ↓ff_0, ↓ff_s, ↓ff_o, ↓fo_l, ↓fo_i, ↓fk_fr, ↓fk_ow, ↓vk_fr, ↓vk_ow, ↓vw_fr, ↓vw_l, ↓mv_fr, ↓mv_ow, ↓sq_nx, ↓sq_bk, ↓sq_ct, ↓sq_rt, ↓fi_rt, ↓fi_nx, ↓ou_0, ↓ou_fr, ↓ou_ow, ↓ou_un, ↓ou_of, ↓ou_on, ↓un_00, ↓un_0s, ↓un_s, ↓rk_fr, ↓rk_un, ↓rk_ow, ↓ak_l, ↓lk_l, ↓si_l, ↓ls_0, ↓ls_s, ↓gb_fr, ↓gb_ow, ↓rb_fr, ↓rb_ow, ↓to_0, ↓to_v, ↓to_b, ↓to_map, ↓to_mapn, ↓tb_fr, ↓tb_ow, ↓bk_0, ↓bk_v, ↓bk_bi, ↓ba_0, ↓ba_s, ↓bk_mapf, ↓bk_mapn, ↓bb_fr, ↓bb_ow, ↓ui_un, ↓set_tag, ↓set_tagf, ↓df_0, ↓sp_0, ↓sp_n, ↓sp_s, ↓fs_0, ↓fs_s, ↓fs_map, ↓ct_0, ↓ct_fr, ↓ct_un, ↓ct_ow, ↓ap_00, ↓ap_0s, ↓ap_s, ↓as_0, ↓as_s, ↓in_v, ↓in_b, ↓ib_fr, ↓ib_ow, ↓fl_v, ↓fr_fd, ↓fl_b, ↓fb_fr, ↓fb_ow, ↓get_look, ↓ln_i, ↓sf_fr, ↓sf_ow, ↓mk_r, ↓w_var, ↓w_view, ↓w_lift, ↓w_frz, ↓w_m1, ↓w_m2, ↓w_mV2, ↓w_m2V, ↓w_tst, ↓w_isN, ↓w_notN, ↓bv_bl, ↓w_andV, ↓w_orV, ↓nv_bl, ↓w_notV, ↓w_ch, ↓pt_i, ↓w_part, ↓w_sl, ↓w_slV, ↓w_cal, ↓w_lenV, ↓w_is, ↓w_isO, ↓w_put, ↓w_set, ↓w_move, ↓w_seq, ↓w_asg, ↓w_app, ↓w_setI, ↓w_items, ↓w_gB, ↓w_rB, ↓w_cl, ↓w_callA, ↓w_gStar, ↓w_fld, ↓get_d1, ↓w_mth, ↓w_mthS, ↓w_prp, ↓w_lenO, ↓w_own2, ↓w_ownB, ↓w_augO, ↓w_setF, ↓w_fn, ↓w_mk, ↓w_arg, ↓w_any, ↓w_kw, ↓selR, ↓selA, ↓sQ_0, ↓sQ_s, ↓st_nx, ↓st_ct, ↓st_bk, ↓st_rt, ↓w_lc, ↓g_ixt, ↓g_ixl, ↓g_ixs, ↓at_0, ↓at_1, ↓at_2, ↓at_3, ↓ix_0, ↓ix_1, ↓ix_2, ↓g_addi, ↓g_adds, ↓g_addt, ↓g_addl, ↓g_muli, ↓g_mult, ↓g_mull, ↓g_sub, ↓g_div, ↓g_mod, ↓g_pow, ↓g_bD, ↓g_lt, ↓g_le, ↓g_gt, ↓g_ge, ↓g_neg, ↓g_bl, ↓g_int, ↓g_lent, ↓g_lenl, ↓g_lens, ↓g_list, ↓g_lisl, ↓g_tupt, ↓g_tupl, ↓g_max, ↓g_min, ↓g_itt, ↓g_itl, ↓g_its, ↓g_slt, ↓g_sll, ↓g_sls, ↓g_rng1, ↓g_rng2, ↓g_enum, ↓g_nm, ↓g_tp, ↓g_gc, ↓g_gn, ↓g_isIntD_non, ↓g_isIntD_bl, ↓g_isIntD_int, ↓g_isIntD_str, ↓g_isIntD_tup, ↓g_isIntD_lst, ↓g_isBoolD_non, ↓g_isBoolD_bl, ↓g_isBoolD_int, ↓g_isBoolD_str, ↓g_isBoolD_tup, ↓g_isBoolD_lst, ↓g_isTupD_non, ↓g_isTupD_bl, ↓g_isTupD_int, ↓g_isTupD_str, ↓g_isTupD_tup, ↓g_isTupD_lst, ↓g_isStrD_non, ↓g_isStrD_bl, ↓g_isStrD_int, ↓g_isStrD_str, ↓g_isStrD_tup, ↓g_isStrD_lst, ↓g_own_non, ↓g_own_bl, ↓g_own_int, ↓g_own_str, ↓g_own_tup, ↓g_own_lst, ↓g_own_ins, ↓g_eqi, ↓g_eqs, ↓g_nei, ↓g_nes, ↓p_bnd, ↓p_ret, ↓p_none, ↓p_fr, ↓p_and, ↓p_or, ↓p_not, ↓p_ifE, ↓p_bl, ↓p_nil, ↓p_cons, ↓p_tup, ↓p_lst, ↓p_drop, ↓p_rt, ↓p_mif, ↓p_for, ↓p_gNil, ↓p_gV, ↓p_gApp, ↓p_rV, ↓p_if, cs_un, cs_fr, List.length_cons, List.length_nil, List.length_map, Nat.zero_add, insD_i, decide_eq_true_eq, Bool.not_eq_true', Bool.not_true, Bool.not_false, decide_eq_false_iff_not, true_and, and_true, ne_eq, not_false_eq_true, List.lookup_cons, Nat.reduceAdd, isN_non, isN_bl, isN_int, isN_str, isN_tup, isN_lst, ↓reduceIte]
  refine ⟨⟨by omega, by omega⟩, ?_⟩
  have en : (1 + d1 - 1).toNat = d1.toNat := by congr 1; omega
  rw [en]
  refine for_inv (FirI (n + 2) u (1 + d1) d2) ?_ ?_ ?_
  · exact ⟨l2, [], .un, .un, rfl, p2.mono (by simp; omega), rfl, fun k i e => by simp at e⟩
  · rintro i d a hd ⟨l3, is, x, y, rfl, p3, hl, hi⟩
    obtain ⟨hi1, rfl⟩ := rngD_at hd
    simp (decide := true) only [↓k_some, ↓k_no, ↓k_ite, ↓getK_0, ↓getK_s, ↓setK_0, ↓setK_s, ↓ff_0, ↓ff_s, ↓ff_o, ↓fo_l, ↓fo_i, ↓fk_fr, ↓fk_ow, ↓vk_fr, ↓vk_ow, ↓vw_fr, ↓vw_l, ↓mv_fr, ↓mv_ow, ↓sq_nx, ↓sq_bk, ↓sq_ct, ↓sq_rt, ↓fi_rt, ↓fi_nx, ↓ou_0, ↓ou_fr, ↓ou_ow, ↓ou_un, ↓ou_of, ↓ou_on, ↓un_00, ↓un_0s, ↓un_s, ↓rk_fr, ↓rk_un, ↓rk_ow, ↓ak_l, ↓lk_l, ↓si_l, ↓ls_0, ↓ls_s, ↓gb_fr, ↓gb_ow, ↓rb_fr, ↓rb_ow, ↓to_0, ↓to_v, ↓to_b, ↓to_map, ↓to_mapn, ↓tb_fr, ↓tb_ow, ↓bk_0, ↓bk_v, ↓bk_bi, ↓ba_0, ↓ba_s, ↓bk_mapf, ↓bk_mapn, ↓bb_fr, ↓bb_ow, ↓ui_un, ↓set_tag, ↓set_tagf, ↓df_0, ↓sp_0, ↓sp_n, ↓sp_s, ↓fs_0, ↓fs_s, ↓fs_map, ↓ct_0, ↓ct_fr, ↓ct_un, ↓ct_ow, ↓ap_00, ↓ap_0s, ↓ap_s, ↓as_0, ↓as_s, ↓in_v, ↓in_b, ↓ib_fr, ↓ib_ow, ↓fl_v, ↓fr_fd, ↓fl_b, ↓fb_fr, ↓fb_ow, ↓get_look, ↓ln_i, ↓sf_fr, ↓sf_ow, ↓mk_r, ↓w_var, ↓w_view, ↓w_lift, ↓w_frz, ↓w_m1, ↓w_m2, ↓w_mV2, ↓w_m2V, ↓w_tst, ↓w_isN, ↓w_notN, ↓bv_bl, ↓w_andV, ↓w_orV, ↓nv_bl, ↓w_notV, ↓w_ch, ↓pt_i, ↓w_part, ↓w_sl, ↓w_slV, ↓w_cal, ↓w_lenV, ↓w_is, ↓w_isO, ↓w_put, ↓w_set, ↓w_move, ↓w_seq, ↓w_asg, ↓w_app, ↓w_setI, ↓w_items, ↓w_gB, ↓w_rB, ↓w_cl, ↓w_callA, ↓w_gStar, ↓w_fld, ↓get_d1, ↓w_mth, ↓w_mthS, ↓w_prp, ↓w_lenO, ↓w_own2, ↓w_ownB, ↓w_augO, ↓w_setF, ↓w_fn, ↓w_mk, ↓w_arg, ↓w_any, ↓w_kw, ↓selR, ↓selA, ↓sQ_0, ↓sQ_s, ↓st_nx, ↓st_ct, ↓st_bk, ↓st_rt, ↓w_lc, ↓g_ixt, ↓g_ixl, ↓g_ixs, ↓at_0, ↓at_1, ↓at_2, ↓at_3, ↓ix_0, ↓ix_1, ↓ix_2, ↓g_addi, ↓g_adds, ↓g_addt, ↓g_addl, ↓g_muli, ↓g_mult, ↓g_mull, ↓g_sub, ↓g_div, ↓g_mod, ↓g_pow, ↓g_bD, ↓g_lt, ↓g_le, ↓g_gt, ↓g_ge, ↓g_neg, ↓g_bl, ↓g_int, ↓g_lent, ↓g_lenl, ↓g_lens, ↓g_list, ↓g_lisl, ↓g_tupt, ↓g_tupl, ↓g_max, ↓g_min, ↓g_itt, ↓g_itl, ↓g_its, ↓g_slt, ↓g_sll, ↓g_sls, ↓g_rng1, ↓g_rng2, ↓g_enum, ↓g_nm, ↓g_tp, ↓g_gc, ↓g_gn, ↓g_isIntD_non, ↓g_isIntD_bl, ↓g_isIntD_int, ↓g_isIntD_str, ↓g_isIntD_tup, ↓g_isIntD_lst, ↓g_isBoolD_non, ↓g_isBoolD_bl, ↓g_isBoolD_int, ↓g_isBoolD_str, ↓g_isBoolD_tup, ↓g_isBoolD_lst, ↓g_isTupD_non, ↓g_isTupD_bl, ↓g_isTupD_int, ↓g_isTupD_str, ↓g_isTupD_tup, ↓g_isTupD_lst, ↓g_isStrD_non, ↓g_isStrD_bl, ↓g_isStrD_int, ↓g_isStrD_str, ↓g_isStrD_tup, ↓g_isStrD_lst, ↓g_own_non, ↓g_own_bl, ↓g_own_int, ↓g_own_str, ↓g_own_tup, ↓g_own_lst, ↓g_own_ins, ↓g_eqi, ↓g_eqs, ↓g_nei, ↓g_nes, ↓p_bnd, ↓p_ret, ↓p_none, ↓p_fr, ↓p_and, ↓p_or, ↓p_not, ↓p_ifE, ↓p_bl, ↓p_nil, ↓p_cons, ↓p_tup, ↓p_lst, ↓p_drop, ↓p_rt, ↓p_mif, ↓p_for, ↓p_gNil, ↓p_gV, ↓p_gApp, ↓p_rV, ↓p_if, cs_un, cs_fr, List.length_cons, List.length_nil, List.length_map, Nat.zero_add, insD_i, decide_eq_true_eq, Bool.not_eq_true', Bool.not_true, Bool.not_false, decide_eq_false_iff_not, true_and, and_true, ne_eq, not_false_eq_true, List.lookup_cons, Nat.reduceAdd, isN_non, isN_bl, isN_int, isN_str, isN_tup, isN_lst, ↓reduceIte]
    refine pick_spec p3 (by omega) (by omega) (by omega) fun d3 l4 c1 c2 p4 => ?_
    simp (decide := true) only [↓k_some, ↓k_no, ↓k_ite, ↓getK_0, ↓getK_s, ↓setK_0, ↓setK_s, ↓ff_0, ↓ff_s, ↓ff_o, ↓fo_l, ↓fo_i, ↓fk_fr, ↓fk_ow, ↓vk_fr, ↓vk_ow, ↓vw_fr, ↓vw_l, ↓mv_fr, ↓mv_ow, ↓sq_nx, ↓sq_bk, ↓sq_ct, ↓sq_rt, ↓fi_rt, ↓fi_nx, ↓ou_0, ↓ou_fr, ↓ou_ow, ↓ou_un, ↓ou_of, ↓ou_on, ↓un_00, ↓un_0s, ↓un_s, ↓rk_fr, ↓rk_un, ↓rk_ow, ↓ak_l, ↓lk_l, ↓si_l, ↓ls_0, ↓ls_s, ↓gb_fr, ↓gb_ow, ↓rb_fr, ↓rb_ow, ↓to_0, ↓to_v, ↓to_b, ↓to_map, ↓to_mapn, ↓tb_fr, ↓tb_ow, ↓bk_0, ↓bk_v, ↓bk_bi, ↓ba_0, ↓ba_s, ↓bk_mapf, ↓bk_mapn, ↓bb_fr, ↓bb_ow, ↓ui_un, ↓set_tag, ↓set_tagf, ↓df_0, ↓sp_0, ↓sp_n, ↓sp_s, ↓fs_0, ↓fs_s, ↓fs_map, ↓ct_0, ↓ct_fr, ↓ct_un, ↓ct_ow, ↓ap_00, ↓ap_0s, ↓ap_s, ↓as_0, ↓as_s, ↓in_v, ↓in_b, ↓ib_fr, ↓ib_ow, ↓fl_v, ↓fr_fd, ↓fl_b, ↓fb_fr, ↓fb_ow, ↓get_look, ↓ln_i, ↓sf_fr, ↓sf_ow, ↓mk_r, ↓w_var, ↓w_view, ↓w_lift, ↓w_frz, ↓w_m1, ↓w_m2, ↓w_mV2, ↓w_m2V, ↓w_tst, ↓w_isN, ↓w_notN, ↓bv_bl, ↓w_andV, ↓w_orV, ↓nv_bl, ↓w_notV, ↓w_ch, ↓pt_i, ↓w_part, ↓w_sl, ↓w_slV, ↓w_cal, ↓w_lenV, ↓w_is, ↓w_isO, ↓w_put, ↓w_set, ↓w_move, ↓w_seq, ↓w_asg, ↓w_app, ↓w_setI, ↓w_items, ↓w_gB, ↓w_rB, ↓w_cl, ↓w_callA, ↓w_gStar, ↓w_fld, ↓get_d1, ↓w_mth, ↓w_mthS, ↓w_prp, ↓w_lenO, ↓w_own2, ↓w_ownB, ↓w_augO, ↓w_setF, ↓w_fn, ↓w_mk, ↓w_arg, ↓w_any, ↓w_kw, ↓selR, ↓selA, ↓sQ_0, ↓sQ_s, ↓st_nx, ↓st_ct, ↓st_bk, ↓st_rt, ↓w_lc, ↓g_ixt, ↓g_ixl, ↓g_ixs, ↓at_0, ↓at_1, ↓at_2, ↓at_3, ↓ix_0, ↓ix_1, ↓ix_2, ↓g_addi, ↓g_adds, ↓g_addt, ↓g_addl, ↓g_muli, ↓g_mult, ↓g_mull, ↓g_sub, ↓g_div, ↓g_mod, ↓g_pow, ↓g_bD, ↓g_lt, ↓g_le, ↓g_gt, ↓g_ge, ↓g_neg, ↓g_bl, ↓g_int, ↓g_lent, ↓g_lenl, ↓g_lens, ↓g_list, ↓g_lisl, ↓g_tupt, ↓g_tupl, ↓g_max, ↓g_min, ↓g_itt, ↓g_itl, ↓g_its, ↓g_slt, ↓g_sll, ↓g_sls, ↓g_rng1, ↓g_rng2, ↓g_enum, ↓g_nm, ↓g_tp, ↓g_gc, ↓g_gn, ↓g_isIntD_non, ↓g_isIntD_bl, ↓g_isIntD_int, ↓g_isIntD_str, ↓g_isIntD_tup, ↓g_isIntD_lst, ↓g_isBoolD_non, ↓g_isBoolD_bl, ↓g_isBoolD_int, ↓g_isBoolD_str, ↓g_isBoolD_tup, ↓g_isBoolD_lst, ↓g_isTupD_non, ↓g_isTupD_bl, ↓g_isTupD_int, ↓g_isTupD_str, ↓g_isTupD_tup, ↓g_isTupD_lst, ↓g_isStrD_non, ↓g_isStrD_bl, ↓g_isStrD_int, ↓g_isStrD_str, ↓g_isStrD_tup, ↓g_isStrD_lst, ↓g_own_non, ↓g_own_bl, ↓g_own_int, ↓g_own_str, ↓g_own_tup, ↓g_own_lst, ↓g_own_ins, ↓g_eqi, ↓g_eqs, ↓g_nei, ↓g_nes, ↓p_bnd, ↓p_ret, ↓p_none, ↓p_fr, ↓p_and, ↓p_or, ↓p_not, ↓p_ifE, ↓p_bl, ↓p_nil, ↓p_cons, ↓p_tup, ↓p_lst, ↓p_drop, ↓p_rt, ↓p_mif, ↓p_for, ↓p_gNil, ↓p_gV, ↓p_gApp, ↓p_rV, ↓p_if, cs_un, cs_fr, List.length_cons, List.length_nil, List.length_map, Nat.zero_add, insD_i, decide_eq_true_eq, Bool.not_eq_true', Bool.not_true, Bool.not_false, decide_eq_false_iff_not, true_and, and_true, ne_eq, not_false_eq_true, List.lookup_cons, Nat.reduceAdd, isN_non, isN_bl, isN_int, isN_str, isN_tup, isN_lst, ↓reduceIte]
    have fin : ∀ z : Int, 0 ≤ z → z ≤ i → ∀ y, FirI (n + 2) u (1 + d1) d2 (i + 1) [Sl.ow (some 0) (.lst l4), .fr (.int u), .fr (.int (1 + d1)), .fr (.int d2), .ow none (.lst (.non :: is.map .int ++ [.int z])), .fr (.int (1 + (i : Int))), y] := fun z z1 z2 y =>
      ⟨l4, is ++ [z], .fr (.int (1 + (i : Int))), y, by simp, p4.mono (by simp; omega), by simp [hl], hi.snoc z1 (by omega)⟩
    have sz : is.length + 1 < sizeLine := by
      rw [hl]
      exact Nat.lt_of_lt_of_le (by omega : i + 1 < 100) (by decide)
    repeat' split
    all_goals exact ⟨sz, fin _ (by first | omega | (split <;> omega)) (by first | omega | (split <;> omega)) _⟩
  · rintro a ⟨l3, is, x, y, rfl, p3, hl, hi⟩
    simp (decide := true) only [↓k_some, ↓k_no, ↓k_ite, ↓getK_0, ↓getK_s, ↓setK_0, ↓setK_s, ↓ff_0, ↓ff_s, ↓ff_o, ↓fo_l, ↓fo_i, ↓fk_fr, ↓fk_ow, ↓vk_fr, ↓vk_ow, ↓vw_fr, ↓vw_l, ↓mv_fr, ↓mv_ow, ↓sq_nx, ↓sq_bk, ↓sq_ct, ↓sq_rt, ↓fi_rt, ↓fi_nx, ↓ou_0, ↓ou_fr, ↓ou_ow, ↓ou_un, ↓ou_of, ↓ou_on, ↓un_00, ↓un_0s, ↓un_s, ↓rk_fr, ↓rk_un, ↓rk_ow, ↓ak_l, ↓lk_l, ↓si_l, ↓ls_0, ↓ls_s, ↓gb_fr, ↓gb_ow, ↓rb_fr, ↓rb_ow, ↓to_0, ↓to_v, ↓to_b, ↓to_map, ↓to_mapn, ↓tb_fr, ↓tb_ow, ↓bk_0, ↓bk_v, ↓bk_bi, ↓ba_0, ↓ba_s, ↓bk_mapf, ↓bk_mapn, ↓bb_fr, ↓bb_ow, ↓ui_un, ↓set_tag, ↓set_tagf, ↓df_0, ↓sp_0, ↓sp_n, ↓sp_s, ↓fs_0, ↓fs_s, ↓fs_map, ↓ct_0, ↓ct_fr, ↓ct_un, ↓ct_ow, ↓ap_00, ↓ap_0s, ↓ap_s, ↓as_0, ↓as_s, ↓in_v, ↓in_b, ↓ib_fr, ↓ib_ow, ↓fl_v, ↓fr_fd, ↓fl_b, ↓fb_fr, ↓fb_ow, ↓get_look, ↓ln_i, ↓sf_fr, ↓sf_ow, ↓mk_r, ↓w_var, ↓w_view, ↓w_lift, ↓w_frz, ↓w_m1, ↓w_m2, ↓w_mV2, ↓w_m2V, ↓w_tst, ↓w_isN, ↓w_notN, ↓bv_bl, ↓w_andV, ↓w_orV, ↓nv_bl, ↓w_notV, ↓w_ch, ↓pt_i, ↓w_part, ↓w_sl, ↓w_slV, ↓w_cal, ↓w_lenV, ↓w_is, ↓w_isO, ↓w_put, ↓w_set, ↓w_move, ↓w_seq, ↓w_asg, ↓w_app, ↓w_setI, ↓w_items, ↓w_gB, ↓w_rB, ↓w_cl, ↓w_callA, ↓w_gStar, ↓w_fld, ↓get_d1, ↓w_mth, ↓w_mthS, ↓w_prp, ↓w_lenO, ↓w_own2, ↓w_ownB, ↓w_augO, ↓w_setF, ↓w_fn, ↓w_mk, ↓w_arg, ↓w_any, ↓w_kw, ↓selR, ↓selA, ↓sQ_0, ↓sQ_s, ↓st_nx, ↓st_ct, ↓st_bk, ↓st_rt, ↓w_lc, ↓g_ixt, ↓g_ixl, ↓g_ixs, ↓at_0, ↓at_1, ↓at_2, ↓at_3, ↓ix_0, ↓ix_1, ↓ix_2, ↓g_addi, ↓g_adds, ↓g_addt, ↓g_addl, ↓g_muli, ↓g_mult, ↓g_mull, ↓g_sub, ↓g_div, ↓g_mod, ↓g_pow, ↓g_bD, ↓g_lt, ↓g_le, ↓g_gt, ↓g_ge, ↓g_neg, ↓g_bl, ↓g_int, ↓g_lent, ↓g_lenl, ↓g_lens, ↓g_list, ↓g_lisl, ↓g_tupt, ↓g_tupl, ↓g_max, ↓g_min, ↓g_itt, ↓g_itl, ↓g_its, ↓g_slt, ↓g_sll, ↓g_sls, ↓g_rng1, ↓g_rng2, ↓g_enum, ↓g_nm, ↓g_tp, ↓g_gc, ↓g_gn, ↓g_isIntD_non, ↓g_isIntD_bl, ↓g_isIntD_int, ↓g_isIntD_str, ↓g_isIntD_tup, ↓g_isIntD_lst, ↓g_isBoolD_non, ↓g_isBoolD_bl, ↓g_isBoolD_int, ↓g_isBoolD_str, ↓g_isBoolD_tup, ↓g_isBoolD_lst, ↓g_isTupD_non, ↓g_isTupD_bl, ↓g_isTupD_int, ↓g_isTupD_str, ↓g_isTupD_tup, ↓g_isTupD_lst, ↓g_isStrD_non, ↓g_isStrD_bl, ↓g_isStrD_int, ↓g_isStrD_str, ↓g_isStrD_tup, ↓g_isStrD_lst, ↓g_own_non, ↓g_own_bl, ↓g_own_int, ↓g_own_str, ↓g_own_tup, ↓g_own_lst, ↓g_own_ins, ↓g_eqi, ↓g_eqs, ↓g_nei, ↓g_nes, ↓p_bnd, ↓p_ret, ↓p_none, ↓p_fr, ↓p_and, ↓p_or, ↓p_not, ↓p_ifE, ↓p_bl, ↓p_nil, ↓p_cons, ↓p_tup, ↓p_lst, ↓p_drop, ↓p_rt, ↓p_mif, ↓p_for, ↓p_gNil, ↓p_gV, ↓p_gApp, ↓p_rV, ↓p_if, cs_un, cs_fr, List.length_cons, List.length_nil, List.length_map, Nat.zero_add, insD_i, decide_eq_true_eq, Bool.not_eq_true', Bool.not_true, Bool.not_false, decide_eq_false_iff_not, true_and, and_true, ne_eq, not_false_eq_true, List.lookup_cons, Nat.reduceAdd, isN_non, isN_bl, isN_int, isN_str, isN_tup, isN_lst, ↓reduceIte]
    rw [rngD_len] at hl p3
    exact h _ _ ⟨is, rfl, by omega, hi⟩ (by simp; omega) (p3.mono (by omega))

/-- wishes: whole numbers of a tree of size s -/
def Wishes (s : Int) (ws : List Int) : Prop := ∀ w ∈ ws, 0 ≤ w ∧ w < s
theorem Wishes.snoc {s z : Int} {ws : List Int} (h : Wishes s ws) (h0 : 0 ≤ z) (h1 : z < s) : Wishes s (ws ++ [z]) := fun w hw => by
  rcases List.mem_append.mp hw with q | q
  · exact h w q
  · rw [List.mem_singleton.mp q]; exact ⟨h0, h1⟩
def AskI (n s up much : Int) (k : Nat) (acc : List D) (a : AS) : Prop := ∃ (l : List D) (ws : List Int), acc = ws.map .int ∧ ws.length = k ∧ Wishes s ws ∧ Pot (n + k) l ∧ a = [.ow (some 0) (.lst l), .fr (.int s), .fr (.int up), .fr (.int much), .un]
theorem asks_spec {l : List D} {n s up : Int} {Q : Sl → List Sl → Prop} (hp : Pot n l) (hn : n ≤ 900000000000) (hs : 0 < s) (hs2 : s ≤ 10) (hu : 0 ≤ up) (hu2 : up ≤ 40)
    (h : ∀ ws l', Wishes s ws → (ws.length : Int) ≤ up → Pot (n + 50) l' → Q (.fr (.tup (ws.map .int))) [.ow (some 0) (.lst l'), .fr (.int s), .fr (.int up)]) : PostF (f_l_drawn_asks Z) [.ow (some 0) (.lst l), .fr (.int s), .fr (.int up)] Q := by
  unfold f_l_drawn_asks b_l_drawn_asks
  simp (decide := true) only [↓k_some, ↓k_no, ↓k_ite, ↓getK_0, ↓getK_s, ↓setK_0, ↓setK_s, ↓ff_0, ↓ff_s, ↓ff_o, ↓fo_l, ↓fo_i, ↓fk_fr, ↓fk_ow, ↓vk_fr, ↓vk_ow, ↓vw_fr, ↓vw_l, ↓mv_fr, ↓mv_ow, ↓sq_nx, ↓sq_bk, ↓sq_ct, ↓sq_rt, ↓fi_rt, ↓fi_nx, ↓ou_0, ↓ou_fr, ↓ou_ow, ↓ou_un, ↓ou_of, ↓ou_on, ↓un_00, ↓un_0s, ↓un_s, ↓rk_fr, ↓rk_un, ↓rk_ow, ↓ak_l, ↓lk_l, ↓si_l, ↓ls_0, ↓ls_s, ↓gb_fr, ↓gb_ow, ↓rb_fr, ↓rb_ow, ↓to_0, ↓to_v, ↓to_b, ↓to_map, ↓to_mapn, ↓tb_fr, ↓tb_ow, ↓bk_0, ↓bk_v, ↓bk_bi, ↓ba_0, ↓ba_s, ↓bk_mapf, ↓bk_mapn, ↓bb_fr, ↓bb_ow, ↓ui_un, ↓set_tag, ↓set_tagf, ↓df_0, ↓sp_0, ↓sp_n, ↓sp_s, ↓fs_0, ↓fs_s, ↓fs_map, ↓ct_0, ↓ct_fr, ↓ct_un, ↓ct_ow, ↓ap_00, ↓ap_0s, ↓ap_s, ↓as_0, ↓as_s, ↓in_v, ↓in_b, ↓ib_fr, ↓ib_ow, ↓fl_v, ↓fr_fd, ↓fl_b, ↓fb_fr, ↓fb_ow, ↓get_look, ↓ln_i, ↓sf_fr, ↓sf_ow, ↓mk_r, ↓w_var, ↓w_view, ↓w_lift, ↓w_frz, ↓w_m1, ↓w_m2, ↓w_mV2, ↓w_m2V, ↓w_tst, ↓w_isN, ↓w_notN, ↓bv_bl, ↓w_andV, ↓w_orV, ↓nv_bl, ↓w_notV, ↓w_ch, ↓pt_i, ↓w_part, ↓w_sl, ↓w_slV, ↓w_cal, ↓w_lenV, ↓w_is, ↓w_isO, ↓w_put, ↓w_set, ↓w_move, ↓w_seq, ↓w_asg, ↓w_app, ↓w_setI, ↓w_items, ↓w_gB, ↓w_rB, ↓w_cl, ↓w_callA, ↓w_gStar, ↓w_fld, ↓get_d1, ↓w_mth, ↓w_mthS, ↓w_prp, ↓w_lenO, ↓w_own2, ↓w_ownB, ↓w_augO, ↓w_setF, ↓w_fn, ↓w_mk, ↓w_arg, ↓w_any, ↓w_kw, ↓selR, ↓selA, ↓sQ_0, ↓sQ_s, ↓st_nx, ↓st_ct, ↓st_bk, ↓st_rt, ↓w_lc, ↓g_ixt, ↓g_ixl, ↓g_ixs, ↓at_0, ↓at_1, ↓at_2, ↓at_3, ↓ix_0, ↓ix_1, ↓ix_2, ↓g_addi, ↓g_adds, ↓g_addt, ↓g_addl, ↓g_muli, ↓g_mult, ↓g_mull, ↓g_sub, ↓g_div, ↓g_mod, ↓g_pow, ↓g_bD, ↓g_lt, ↓g_le, ↓g_gt, ↓g_ge, ↓g_neg, ↓g_bl, ↓g_int, ↓g_lent, ↓g_lenl, ↓g_lens, ↓g_list, ↓g_lisl, ↓g_tupt, ↓g_tupl, ↓g_max, ↓g_min, ↓g_itt, ↓g_itl, ↓g_its, ↓g_slt, ↓g_sll, ↓g_sls, ↓g_rng1, ↓g_rng2, ↓g_enum, ↓g_nm, ↓g_tp, ↓g_gc, ↓g_gn, ↓g_isIntD_non, ↓g_isIntD_bl, ↓g_isIntD_int, ↓g_isIntD_str, ↓g_isIntD_tup, ↓g_isIntD_lst, ↓g_isBoolD_non, ↓g_isBoolD_bl, ↓g_isBoolD_int, ↓g_isBoolD_str, ↓g_isBoolD_tup, ↓g_isBoolD_lst, ↓g_isTupD_non, ↓g_isTupD_bl, ↓g_isTupD_int, ↓g_isTupD_str, ↓g_isTupD_tup, ↓g_isTupD_lst, ↓g_isStrD_non, ↓g_isStrD_bl, ↓g_isStrD_int, ↓g_isStrD_str, ↓g_isStrD_tup, ↓g_isStrD_lst, ↓g_own_non, ↓g_own_bl, ↓g_own_int, ↓g_own_str, ↓g_own_tup, ↓g_own_lst, ↓g_own_ins, ↓g_eqi, ↓g_eqs, ↓g_nei, ↓g_nes, ↓p_bnd, ↓p_ret, ↓p_none, ↓p_fr, ↓p_and, ↓p_or, ↓p_not, ↓p_ifE, ↓p_bl, ↓p_nil, ↓p_cons, ↓p_tup, ↓p_lst, ↓p_drop, ↓p_rt, ↓p_mif, ↓p_for, ↓p_gNil, ↓p_gV, ↓p_gApp, ↓p_rV, ↓p_if, cs_un, cs_fr, List.length_cons, List.length_nil, List.length_map, Nat.zero_add, insD_i, decide_eq_true_eq, Bool.not_eq_true', Bool.not_true, Bool.not_false, decide_eq_false_iff_not, true_and, and_true, ne_eq, not_false_eq_true, List.lookup_cons, Nat.reduceAdd, isN_non, isN_bl, isN_int, isN_str, isN_tup, isN_lst, ↓reduceIte]
  refine pick_spec hp (by omega) (by omega) (by omega) fun d1 l1 a1 a2 p1 => ?_
  simp (decide := true) only [↓k_some, ↓k_no, ↓k_ite, ↓getK_0, ↓getK_s, ↓setK_0, ↓setK_s, ↓ff_0, ↓ff_s, ↓ff_o, ↓fo_l, ↓fo_i, ↓fk_fr, ↓fk_ow, ↓vk_fr, ↓vk_ow, ↓vw_fr, ↓vw_l, ↓mv_fr, ↓mv_ow, ↓sq_nx, ↓sq_bk, ↓sq_ct, ↓sq_rt, ↓fi_rt, ↓fi_nx, ↓ou_0, ↓ou_fr, ↓ou_ow, ↓ou_un, ↓ou_of, ↓ou_on, ↓un_00, ↓un_0s, ↓un_s, ↓rk_fr, ↓rk_un, ↓rk_ow, ↓ak_l, ↓lk_l, ↓si_l, ↓ls_0, ↓ls_s, ↓gb_fr, ↓gb_ow, ↓rb_fr, ↓rb_ow, ↓to_0, ↓to_v, ↓to_b, ↓to_map, ↓to_mapn, ↓tb_fr, ↓tb_ow, ↓bk_0, ↓bk_v, ↓bk_bi, ↓ba_0, ↓ba_s, ↓bk_mapf, ↓bk_mapn, ↓bb_fr, ↓bb_ow, ↓ui_un, ↓set_tag, ↓set_tagf, ↓df_0, ↓sp_0, ↓sp_n, ↓sp_s, ↓fs_0, ↓fs_s, ↓fs_map, ↓ct_0, ↓ct_fr, ↓ct_un, ↓ct_ow, ↓ap_00, ↓ap_0s, ↓ap_s, ↓as_0, ↓as_s, ↓in_v, ↓in_b, ↓ib_fr, ↓ib_ow, ↓fl_v, ↓fr_fd, ↓fl_b, ↓fb_fr, ↓fb_ow, ↓get_look, ↓ln_i, ↓sf_fr, ↓sf_ow, ↓mk_r, ↓w_var, ↓w_view, ↓w_lift, ↓w_frz, ↓w_m1, ↓w_m2, ↓w_mV2, ↓w_m2V, ↓w_tst, ↓w_isN, ↓w_notN, ↓bv_bl, ↓w_andV, ↓w_orV, ↓nv_bl, ↓w_notV, ↓w_ch, ↓pt_i, ↓w_part, ↓w_sl, ↓w_slV, ↓w_cal, ↓w_lenV, ↓w_is, ↓w_isO, ↓w_put, ↓w_set, ↓w_move, ↓w_seq, ↓w_asg, ↓w_app, ↓w_setI, ↓w_items, ↓w_gB, ↓w_rB, ↓w_cl, ↓w_callA, ↓w_gStar, ↓w_fld, ↓get_d1, ↓w_mth, ↓w_mthS, ↓w_prp, ↓w_lenO, ↓w_own2, ↓w_ownB, ↓w_augO, ↓w_setF, ↓w_fn, ↓w_mk, ↓w_arg, ↓w_any, ↓w_kw, ↓selR, ↓selA, ↓sQ_0, ↓sQ_s, ↓st_nx, ↓st_ct, ↓st_bk, ↓st_rt, ↓w_lc, ↓g_ixt, ↓g_ixl, ↓g_ixs, ↓at_0, ↓at_1, ↓at_2, ↓at_3, ↓ix_0, ↓ix_1, ↓ix_2, ↓g_addi, ↓g_adds, ↓g_addt, ↓g_addl, ↓g_muli, ↓g_mult, ↓g_mull, ↓g_sub, ↓g_div, ↓g_mod, ↓g_pow, ↓g_bD, ↓g_lt, ↓g_le, ↓g_gt, ↓g_ge, ↓g_neg, ↓g_bl, ↓g_int, ↓g_lent, ↓g_lenl, ↓g_lens, ↓g_list, ↓g_lisl, ↓g_tupt, ↓g_tupl, ↓g_max, ↓g_min, ↓g_itt, ↓g_itl, ↓g_its, ↓g_slt, ↓g_sll, ↓g_sls, ↓g_rng1, ↓g_rng2, ↓g_enum, ↓g_nm, ↓g_tp, ↓g_gc, ↓g_gn, ↓g_isIntD_non, ↓g_isIntD_bl, ↓g_isIntD_int, ↓g_isIntD_str, ↓g_isIntD_tup, ↓g_isIntD_lst, ↓g_isBoolD_non, ↓g_isBoolD_bl, ↓g_isBoolD_int, ↓g_isBoolD_str, ↓g_isBoolD_tup, ↓g_isBoolD_lst, ↓g_isTupD_non, ↓g_isTupD_bl, ↓g_isTupD_int, ↓g_isTupD_str, ↓g_isTupD_tup, ↓g_isTupD_lst, ↓g_isStrD_non, ↓g_isStrD_bl, ↓g_isStrD_int, ↓g_isStrD_str, ↓g_isStrD_tup, ↓g_isStrD_lst, ↓g_own_non, ↓g_own_bl, ↓g_own_int, ↓g_own_str, ↓g_own_tup, ↓g_own_lst, ↓g_own_ins, ↓g_eqi, ↓g_eqs, ↓g_nei, ↓g_nes, ↓p_bnd, ↓p_ret, ↓p_none, ↓p_fr, ↓p_and, ↓p_or, ↓p_not, ↓p_ifE, ↓p_bl, ↓p_nil, ↓p_cons, ↓p_tup, ↓p_lst, ↓p_drop, ↓p_rt, ↓p_mif, ↓p_for, ↓p_gNil, ↓p_gV, ↓p_gApp, ↓p_rV, ↓p_if, cs_un, cs_fr, List.length_cons, List.length_nil, List.length_map, Nat.zero_add, insD_i, decide_eq_true_eq, Bool.not_eq_true', Bool.not_true, Bool.not_false, decide_eq_false_iff_not, true_and, and_true, ne_eq, not_false_eq_true, List.lookup_cons, Nat.reduceAdd, isN_non, isN_bl, isN_int, isN_str, isN_tup, isN_lst, ↓reduceIte]
  rcases (show d1 = 0 ∨ d1 = 1 by omega) with e | e <;> subst e <;> simp (decide := true) only [↓k_some, ↓k_no, ↓k_ite, ↓getK_0, ↓getK_s, ↓setK_0, ↓setK_s, ↓ff_0, ↓ff_s, ↓ff_o, ↓fo_l, ↓fo_i, ↓fk_fr, ↓fk_ow, ↓vk_fr, ↓vk_ow, ↓vw_fr, ↓vw_l, ↓mv_fr, ↓mv_ow, ↓sq_nx, ↓sq_bk, ↓sq_ct, ↓sq_rt, ↓fi_rt, ↓fi_nx, ↓ou_0, ↓ou_fr, ↓ou_ow, ↓ou_un, ↓ou_of, ↓ou_on, ↓un_00, ↓un_0s, ↓un_s, ↓rk_fr, ↓rk_un, ↓rk_ow, ↓ak_l, ↓lk_l, ↓si_l, ↓ls_0, ↓ls_s, ↓gb_fr, ↓gb_ow, ↓rb_fr, ↓rb_ow, ↓to_0, ↓to_v, ↓to_b, ↓to_map, ↓to_mapn, ↓tb_fr, ↓tb_ow, ↓bk_0, ↓bk_v, ↓bk_bi, ↓ba_0, ↓ba_s, ↓bk_mapf, ↓bk_mapn, ↓bb_fr, ↓bb_ow, ↓ui_un, ↓set_tag, ↓set_tagf, ↓df_0, ↓sp_0, ↓sp_n, ↓sp_s, ↓fs_0, ↓fs_s, ↓fs_map, ↓ct_0, ↓ct_fr, ↓ct_un, ↓ct_ow, ↓ap_00, ↓ap_0s, ↓ap_s, ↓as_0, ↓as_s, ↓in_v, ↓in_b, ↓ib_fr, ↓ib_ow, ↓fl_v, ↓fr_fd, ↓fl_b, ↓fb_fr, ↓fb_ow, ↓get_look, ↓ln_i, ↓sf_fr, ↓sf_ow, ↓mk_r, ↓w_var, ↓w_view, ↓w_lift, ↓w_frz, ↓w_m1, ↓w_m2, ↓w_mV2, ↓w_m2V, ↓w_tst, ↓w_isN, ↓w_notN, ↓bv_bl, ↓w_andV, ↓w_orV, ↓nv_bl, ↓w_notV, ↓w_ch, ↓pt_i, ↓w_part, ↓w_sl, ↓w_slV, ↓w_cal, ↓w_lenV, ↓w_is, ↓w_isO, ↓w_put, ↓w_set, ↓w_move, ↓w_seq, ↓w_asg, ↓w_app, ↓w_setI, ↓w_items, ↓w_gB, ↓w_rB, ↓w_cl, ↓w_callA, ↓w_gStar, ↓w_fld, ↓get_d1, ↓w_mth, ↓w_mthS, ↓w_prp, ↓w_lenO, ↓w_own2, ↓w_ownB, ↓w_augO, ↓w_setF, ↓w_fn, ↓w_mk, ↓w_arg, ↓w_any, ↓w_kw, ↓selR, ↓selA, ↓sQ_0, ↓sQ_s, ↓st_nx, ↓st_ct, ↓st_bk, ↓st_rt, ↓w_lc, ↓g_ixt, ↓g_ixl, ↓g_ixs, ↓at_0, ↓at_1, ↓at_2, ↓at_3, ↓ix_0, ↓ix_1, ↓ix_2, ↓g_addi, ↓g_adds, ↓g_addt, ↓g_addl, ↓g_muli, ↓g_mult, ↓g_mull, ↓g_sub, ↓g_div, ↓g_mod, ↓g_pow, ↓g_bD, ↓g_lt, ↓g_le, ↓g_gt, ↓g_ge, ↓g_neg, ↓g_bl, ↓g_int, ↓g_lent, ↓g_lenl, ↓g_lens, ↓g_list, ↓g_lisl, ↓g_tupt, ↓g_tupl, ↓g_max, ↓g_min, ↓g_itt, ↓g_itl, ↓g_its, ↓g_slt, ↓g_sll, ↓g_sls, ↓g_rng1, ↓g_rng2, ↓g_enum, ↓g_nm, ↓g_tp, ↓g_gc, ↓g_gn, ↓g_isIntD_non, ↓g_isIntD_bl, ↓g_isIntD_int, ↓g_isIntD_str, ↓g_isIntD_tup, ↓g_isIntD_lst, ↓g_isBoolD_non, ↓g_isBoolD_bl, ↓g_isBoolD_int, ↓g_isBoolD_str, ↓g_isBoolD_tup, ↓g_isBoolD_lst, ↓g_isTupD_non, ↓g_isTupD_bl, ↓g_isTupD_int, ↓g_isTupD_str, ↓g_isTupD_tup, ↓g_isTupD_lst, ↓g_isStrD_non, ↓g_isStrD_bl, ↓g_isStrD_int, ↓g_isStrD_str, ↓g_isStrD_tup, ↓g_isStrD_lst, ↓g_own_non, ↓g_own_bl, ↓g_own_int, ↓g_own_str, ↓g_own_tup, ↓g_own_lst, ↓g_own_ins, ↓g_eqi, ↓g_eqs, ↓g_nei, ↓g_nes, ↓p_bnd, ↓p_ret, ↓p_none, ↓p_fr, ↓p_and, ↓p_or, ↓p_not, ↓p_ifE, ↓p_bl, ↓p_nil, ↓p_cons, ↓p_tup, ↓p_lst, ↓p_drop, ↓p_rt, ↓p_mif, ↓p_for, ↓p_gNil, ↓p_gV, ↓p_gApp, ↓p_rV, ↓p_if, cs_un, cs_fr, List.length_cons, List.length_nil, List.length_map, Nat.zero_add, insD_i, decide_eq_true_eq, Bool.not_eq_true', Bool.not_true, Bool.not_false, decide_eq_false_iff_not, true_and, and_true, ne_eq, not_false_eq_true, List.lookup_cons, Nat.reduceAdd, isN_non, isN_bl, isN_int, isN_str, isN_tup, isN_lst, ↓reduceIte]
  all_goals
    refine pick_spec p1 (by omega) (by first | omega | (split <;> omega)) (by first | omega | (split <;> omega)) fun d2 l2 b1 b2 p2 => ?_
    simp (decide := true) only [↓k_some, ↓k_no, ↓k_ite, ↓getK_0, ↓getK_s, ↓setK_0, ↓setK_s, ↓ff_0, ↓ff_s, ↓ff_o, ↓fo_l, ↓fo_i, ↓fk_fr, ↓fk_ow, ↓vk_fr, ↓vk_ow, ↓vw_fr, ↓vw_l, ↓mv_fr, ↓mv_ow, ↓sq_nx, ↓sq_bk, ↓sq_ct, ↓sq_rt, ↓fi_rt, ↓fi_nx, ↓ou_0, ↓ou_fr, ↓ou_ow, ↓ou_un, ↓ou_of, ↓ou_on, ↓un_00, ↓un_0s, ↓un_s, ↓rk_fr, ↓rk_un, ↓rk_ow, ↓ak_l, ↓lk_l, ↓si_l, ↓ls_0, ↓ls_s, ↓gb_fr, ↓gb_ow, ↓rb_fr, ↓rb_ow, ↓to_0, ↓to_v, ↓to_b, ↓to_map, ↓to_mapn, ↓tb_fr, ↓tb_ow, ↓bk_0, ↓bk_v, ↓bk_bi, ↓ba_0, ↓ba_s, ↓bk_mapf, ↓bk_mapn, ↓bb_fr, ↓bb_ow, ↓ui_un, ↓set_tag, ↓set_tagf, ↓df_0, ↓sp_0, ↓sp_n, ↓sp_s, ↓fs_0, ↓fs_s, ↓fs_map, ↓ct_0, ↓ct_fr, ↓ct_un, ↓ct_ow, ↓ap_00, ↓ap_0s, ↓ap_s, ↓as_0, ↓as_s, ↓in_v, ↓in_b, ↓ib_fr, ↓ib_ow, ↓fl_v, ↓fr_fd, ↓fl_b, ↓fb_fr, ↓fb_ow, ↓get_look, ↓ln_i, ↓sf_fr, ↓sf_ow, ↓mk_r, ↓w_var, ↓w_view, ↓w_lift, ↓w_frz, ↓w_m1, ↓w_m2, ↓w_mV2, ↓w_m2V, ↓w_tst, ↓w_isN, ↓w_notN, ↓bv_bl, ↓w_andV, ↓w_orV, ↓nv_bl, ↓w_notV, ↓w_ch, ↓pt_i, ↓w_part, ↓w_sl, ↓w_slV, ↓w_cal, ↓w_lenV, ↓w_is, ↓w_isO, ↓w_put, ↓w_set, ↓w_move, ↓w_seq, ↓w_asg, ↓w_app, ↓w_setI, ↓w_items, ↓w_gB, ↓w_rB, ↓w_cl, ↓w_callA, ↓w_gStar, ↓w_fld, ↓get_d1, ↓w_mth, ↓w_mthS, ↓w_prp, ↓w_lenO, ↓w_own2, ↓w_ownB, ↓w_augO, ↓w_setF, ↓w_fn, ↓w_mk, ↓w_arg, ↓w_any, ↓w_kw, ↓selR, ↓selA, ↓sQ_0, ↓sQ_s, ↓st_nx, ↓st_ct, ↓st_bk, ↓st_rt, ↓w_lc, ↓g_ixt, ↓g_ixl, ↓g_ixs, ↓at_0, ↓at_1, ↓at_2, ↓at_3, ↓ix_0, ↓ix_1, ↓ix_2, ↓g_addi, ↓g_adds, ↓g_addt, ↓g_addl, ↓g_muli, ↓g_mult, ↓g_mull, ↓g_sub, ↓g_div, ↓g_mod, ↓g_pow, ↓g_bD, ↓g_lt, ↓g_le, ↓g_gt, ↓g_ge, ↓g_neg, ↓g_bl, ↓g_int, ↓g_lent, ↓g_lenl, ↓g_lens, ↓g_list, ↓g_lisl, ↓g_tupt, ↓g_tupl, ↓g_max, ↓g_min, ↓g_itt, ↓g_itl, ↓g_its, ↓g_slt, ↓g_sll, ↓g_sls, ↓g_rng1, ↓g_rng2, ↓g_enum, ↓g_nm, ↓g_tp, ↓g_gc, ↓g_gn, ↓g_isIntD_non, ↓g_isIntD_bl, ↓g_isIntD_int, ↓g_isIntD_str, ↓g_isIntD_tup, ↓g_isIntD_lst, ↓g_isBoolD_non, ↓g_isBoolD_bl, ↓g_isBoolD_int, ↓g_isBoolD_str, ↓g_isBoolD_tup, ↓g_isBoolD_lst, ↓g_isTupD_non, ↓g_isTupD_bl, ↓g_isTupD_int, ↓g_isTupD_str, ↓g_isTupD_tup, ↓g_isTupD_lst, ↓g_isStrD_non, ↓g_isStrD_bl, ↓g_isStrD_int, ↓g_isStrD_str, ↓g_isStrD_tup, ↓g_isStrD_lst, ↓g_own_non, ↓g_own_bl, ↓g_own_int, ↓g_own_str, ↓g_own_tup, ↓g_own_lst, ↓g_own_ins, ↓g_eqi, ↓g_eqs, ↓g_nei, ↓g_nes, ↓p_bnd, ↓p_ret, ↓p_none, ↓p_fr, ↓p_and, ↓p_or, ↓p_not, ↓p_ifE, ↓p_bl, ↓p_nil, ↓p_cons, ↓p_tup, ↓p_lst, ↓p_drop, ↓p_rt, ↓p_mif, ↓p_for, ↓p_gNil, ↓p_gV, ↓p_gApp, ↓p_rV, ↓p_if, cs_un, cs_fr, List.length_cons, List.length_nil, List.length_map, Nat.zero_add, insD_i, decide_eq_true_eq, Bool.not_eq_true', Bool.not_true, Bool.not_false, decide_eq_false_iff_not, true_and, and_true, ne_eq, not_false_eq_true, List.lookup_cons, Nat.reduceAdd, isN_non, isN_bl, isN_int, isN_str, isN_tup, isN_lst, ↓reduceIte]
    have d2u : d2 ≤ up := by first | omega | (split at b2 <;> omega)
    refine ⟨⟨by omega, by omega⟩, ?_⟩
    refine ⟨by rw [rngD_len]; exact Nat.le_trans (by omega : d2.toNat ≤ 100) (by decide), ?_⟩
    refine LcK.inv (AskI (n + 2) s up d2) ⟨l2, [], rfl, rfl, fun w hw => (nomatch hw), p2.mono (by simp; omega), rfl⟩ (fun k d acc a hd hI => ?_) (fun acc a' hI => ?_)
    · obtain ⟨l3, ws, rfl, hl, hw, p3, rfl⟩ := hI
      obtain ⟨hk, rfl⟩ := rngD_at hd
      simp (decide := true) only [↓k_some, ↓k_no, ↓k_ite, ↓getK_0, ↓getK_s, ↓setK_0, ↓setK_s, ↓ff_0, ↓ff_s, ↓ff_o, ↓fo_l, ↓fo_i, ↓fk_fr, ↓fk_ow, ↓vk_fr, ↓vk_ow, ↓vw_fr, ↓vw_l, ↓mv_fr, ↓mv_ow, ↓sq_nx, ↓sq_bk, ↓sq_ct, ↓sq_rt, ↓fi_rt, ↓fi_nx, ↓ou_0, ↓ou_fr, ↓ou_ow, ↓ou_un, ↓ou_of, ↓ou_on, ↓un_00, ↓un_0s, ↓un_s, ↓rk_fr, ↓rk_un, ↓rk_ow, ↓ak_l, ↓lk_l, ↓si_l, ↓ls_0, ↓ls_s, ↓gb_fr, ↓gb_ow, ↓rb_fr, ↓rb_ow, ↓to_0, ↓to_v, ↓to_b, ↓to_map, ↓to_mapn, ↓tb_fr, ↓tb_ow, ↓bk_0, ↓bk_v, ↓bk_bi, ↓ba_0, ↓ba_s, ↓bk_mapf, ↓bk_mapn, ↓bb_fr, ↓bb_ow, ↓ui_un, ↓set_tag, ↓set_tagf, ↓df_0, ↓sp_0, ↓sp_n, ↓sp_s, ↓fs_0, ↓fs_s, ↓fs_map, ↓ct_0, ↓ct_fr, ↓ct_un, ↓ct_ow, ↓ap_00, ↓ap_0s, ↓ap_s, ↓as_0, ↓as_s, ↓in_v, ↓in_b, ↓ib_fr, ↓ib_ow, ↓fl_v, ↓fr_fd, ↓fl_b, ↓fb_fr, ↓fb_ow, ↓get_look, ↓ln_i, ↓sf_fr, ↓sf_ow, ↓mk_r, ↓w_var, ↓w_view, ↓w_lift, ↓w_frz, ↓w_m1, ↓w_m2, ↓w_mV2, ↓w_m2V, ↓w_tst, ↓w_isN, ↓w_notN, ↓bv_bl, ↓w_andV, ↓w_orV, ↓nv_bl, ↓w_notV, ↓w_ch, ↓pt_i, ↓w_part, ↓w_sl, ↓w_slV, ↓w_cal, ↓w_lenV, ↓w_is, ↓w_isO, ↓w_put, ↓w_set, ↓w_move, ↓w_seq, ↓w_asg, ↓w_app, ↓w_setI, ↓w_items, ↓w_gB, ↓w_rB, ↓w_cl, ↓w_callA, ↓w_gStar, ↓w_fld, ↓get_d1, ↓w_mth, ↓w_mthS, ↓w_prp, ↓w_lenO, ↓w_own2, ↓w_ownB, ↓w_augO, ↓w_setF, ↓w_fn, ↓w_mk, ↓w_arg, ↓w_any, ↓w_kw, ↓selR, ↓selA, ↓sQ_0, ↓sQ_s, ↓st_nx, ↓st_ct, ↓st_bk, ↓st_rt, ↓w_lc, ↓g_ixt, ↓g_ixl, ↓g_ixs, ↓at_0, ↓at_1, ↓at_2, ↓at_3, ↓ix_0, ↓ix_1, ↓ix_2, ↓g_addi, ↓g_adds, ↓g_addt, ↓g_addl, ↓g_muli, ↓g_mult, ↓g_mull, ↓g_sub, ↓g_div, ↓g_mod, ↓g_pow, ↓g_bD, ↓g_lt, ↓g_le, ↓g_gt, ↓g_ge, ↓g_neg, ↓g_bl, ↓g_int, ↓g_lent, ↓g_lenl, ↓g_lens, ↓g_list, ↓g_lisl, ↓g_tupt, ↓g_tupl, ↓g_max, ↓g_min, ↓g_itt, ↓g_itl, ↓g_its, ↓g_slt, ↓g_sll, ↓g_sls, ↓g_rng1, ↓g_rng2, ↓g_enum, ↓g_nm, ↓g_tp, ↓g_gc, ↓g_gn, ↓g_isIntD_non, ↓g_isIntD_bl, ↓g_isIntD_int, ↓g_isIntD_str, ↓g_isIntD_tup, ↓g_isIntD_lst, ↓g_isBoolD_non, ↓g_isBoolD_bl, ↓g_isBoolD_int, ↓g_isBoolD_str, ↓g_isBoolD_tup, ↓g_isBoolD_lst, ↓g_isTupD_non, ↓g_isTupD_bl, ↓g_isTupD_int, ↓g_isTupD_str, ↓g_isTupD_tup, ↓g_isTupD_lst, ↓g_isStrD_non, ↓g_isStrD_bl, ↓g_isStrD_int, ↓g_isStrD_str, ↓g_isStrD_tup, ↓g_isStrD_lst, ↓g_own_non, ↓g_own_bl, ↓g_own_int, ↓g_own_str, ↓g_own_tup, ↓g_own_lst, ↓g_own_ins, ↓g_eqi, ↓g_eqs, ↓g_nei, ↓g_nes, ↓p_bnd, ↓p_ret, ↓p_none, ↓p_fr, ↓p_and, ↓p_or, ↓p_not, ↓p_ifE, ↓p_bl, ↓p_nil, ↓p_cons, ↓p_tup, ↓p_lst, ↓p_drop, ↓p_rt, ↓p_mif, ↓p_for, ↓p_gNil, ↓p_gV, ↓p_gApp, ↓p_rV, ↓p_if, cs_un, cs_fr, List.length_cons, List.length_nil, List.length_map, Nat.zero_add, insD_i, decide_eq_true_eq, Bool.not_eq_true', Bool.not_true, Bool.not_false, decide_eq_false_iff_not, true_and, and_true, ne_eq, not_false_eq_true, List.lookup_cons, Nat.reduceAdd, isN_non, isN_bl, isN_int, isN_str, isN_tup, isN_lst, ↓reduceIte]
      refine pick_spec p3 (by omega) (by omega) (by omega) fun d3 l4 c1 c2 p4 => ?_
      simp (decide := true) only [↓k_some, ↓k_no, ↓k_ite, ↓getK_0, ↓getK_s, ↓setK_0, ↓setK_s, ↓ff_0, ↓ff_s, ↓ff_o, ↓fo_l, ↓fo_i, ↓fk_fr, ↓fk_ow, ↓vk_fr, ↓vk_ow, ↓vw_fr, ↓vw_l, ↓mv_fr, ↓mv_ow, ↓sq_nx, ↓sq_bk, ↓sq_ct, ↓sq_rt, ↓fi_rt, ↓fi_nx, ↓ou_0, ↓ou_fr, ↓ou_ow, ↓ou_un, ↓ou_of, ↓ou_on, ↓un_00, ↓un_0s, ↓un_s, ↓rk_fr, ↓rk_un, ↓rk_ow, ↓ak_l, ↓lk_l, ↓si_l, ↓ls_0, ↓ls_s, ↓gb_fr, ↓gb_ow, ↓rb_fr, ↓rb_ow, ↓to_0, ↓to_v, ↓to_b, ↓to_map, ↓to_mapn, ↓tb_fr, ↓tb_ow, ↓bk_0, ↓bk_v, ↓bk_bi, ↓ba_0, ↓ba_s, ↓bk_mapf, ↓bk_mapn, ↓bb_fr, ↓bb_ow, ↓ui_un, ↓set_tag, ↓set_tagf, ↓df_0, ↓sp_0, ↓sp_n, ↓sp_s, ↓fs_0, ↓fs_s, ↓fs_map, ↓ct_0, ↓ct_fr, ↓ct_un, ↓ct_ow, ↓ap_00, ↓ap_0s, ↓ap_s, ↓as_0, ↓as_s, ↓in_v, ↓in_b, ↓ib_fr, ↓ib_ow, ↓fl_v, ↓fr_fd, ↓fl_b, ↓fb_fr, ↓fb_ow, ↓get_look, ↓ln_i, ↓sf_fr, ↓sf_ow, ↓mk_r, ↓w_var, ↓w_view, ↓w_lift, ↓w_frz, ↓w_m1, ↓w_m2, ↓w_mV2, ↓w_m2V, ↓w_tst, ↓w_isN, ↓w_notN, ↓bv_bl, ↓w_andV, ↓w_orV, ↓nv_bl, ↓w_notV, ↓w_ch, ↓pt_i, ↓w_part, ↓w_sl, ↓w_slV, ↓w_cal, ↓w_lenV, ↓w_is, ↓w_isO, ↓w_put, ↓w_set, ↓w_move, ↓w_seq, ↓w_asg, ↓w_app, ↓w_setI, ↓w_items, ↓w_gB, ↓w_rB, ↓w_cl, ↓w_callA, ↓w_gStar, ↓w_fld, ↓get_d1, ↓w_mth, ↓w_mthS, ↓w_prp, ↓w_lenO, ↓w_own2, ↓w_ownB, ↓w_augO, ↓w_setF, ↓w_fn, ↓w_mk, ↓w_arg, ↓w_any, ↓w_kw, ↓selR, ↓selA, ↓sQ_0, ↓sQ_s, ↓st_nx, ↓st_ct, ↓st_bk, ↓st_rt, ↓w_lc, ↓g_ixt, ↓g_ixl, ↓g_ixs, ↓at_0, ↓at_1, ↓at_2, ↓at_3, ↓ix_0, ↓ix_1, ↓ix_2, ↓g_addi, ↓g_adds, ↓g_addt, ↓g_addl, ↓g_muli, ↓g_mult, ↓g_mull, ↓g_sub, ↓g_div, ↓g_mod, ↓g_pow, ↓g_bD, ↓g_lt, ↓g_le, ↓g_gt, ↓g_ge, ↓g_neg, ↓g_bl, ↓g_int, ↓g_lent, ↓g_lenl, ↓g_lens, ↓g_list, ↓g_lisl, ↓g_tupt, ↓g_tupl, ↓g_max, ↓g_min, ↓g_itt, ↓g_itl, ↓g_its, ↓g_slt, ↓g_sll, ↓g_sls, ↓g_rng1, ↓g_rng2, ↓g_enum, ↓g_nm, ↓g_tp, ↓g_gc, ↓g_gn, ↓g_isIntD_non, ↓g_isIntD_bl, ↓g_isIntD_int, ↓g_isIntD_str, ↓g_isIntD_tup, ↓g_isIntD_lst, ↓g_isBoolD_non, ↓g_isBoolD_bl, ↓g_isBoolD_int, ↓g_isBoolD_str, ↓g_isBoolD_tup, ↓g_isBoolD_lst, ↓g_isTupD_non, ↓g_isTupD_bl, ↓g_isTupD_int, ↓g_isTupD_str, ↓g_isTupD_tup, ↓g_isTupD_lst, ↓g_isStrD_non, ↓g_isStrD_bl, ↓g_isStrD_int, ↓g_isStrD_str, ↓g_isStrD_tup, ↓g_isStrD_lst, ↓g_own_non, ↓g_own_bl, ↓g_own_int, ↓g_own_str, ↓g_own_tup, ↓g_own_lst, ↓g_own_ins, ↓g_eqi, ↓g_eqs, ↓g_nei, ↓g_nes, ↓p_bnd, ↓p_ret, ↓p_none, ↓p_fr, ↓p_and, ↓p_or, ↓p_not, ↓p_ifE, ↓p_bl, ↓p_nil, ↓p_cons, ↓p_tup, ↓p_lst, ↓p_drop, ↓p_rt, ↓p_mif, ↓p_for, ↓p_gNil, ↓p_gV, ↓p_gApp, ↓p_rV, ↓p_if, cs_un, cs_fr, List.length_cons, List.length_nil, List.length_map, Nat.zero_add, insD_i, decide_eq_true_eq, Bool.not_eq_true', Bool.not_true, Bool.not_false, decide_eq_false_iff_not, true_and, and_true, ne_eq, not_false_eq_true, List.lookup_cons, Nat.reduceAdd, isN_non, isN_bl, isN_int, isN_str, isN_tup, isN_lst, ↓reduceIte]
      exact ⟨l4, ws ++ [d3], by simp, by simp [hl], hw.snoc c1 c2, p4.mono (by simp; omega), rfl⟩
    · obtain ⟨l3, ws, rfl, hl, hw, p3, rfl⟩ := hI
      rw [rngD_len] at hl p3
      simp (decide := true) only [↓k_some, ↓k_no, ↓k_ite, ↓getK_0, ↓getK_s, ↓setK_0, ↓setK_s, ↓ff_0, ↓ff_s, ↓ff_o, ↓fo_l, ↓fo_i, ↓fk_fr, ↓fk_ow, ↓vk_fr, ↓vk_ow, ↓vw_fr, ↓vw_l, ↓mv_fr, ↓mv_ow, ↓sq_nx, ↓sq_bk, ↓sq_ct, ↓sq_rt, ↓fi_rt, ↓fi_nx, ↓ou_0, ↓ou_fr, ↓ou_ow, ↓ou_un, ↓ou_of, ↓ou_on, ↓un_00, ↓un_0s, ↓un_s, ↓rk_fr, ↓rk_un, ↓rk_ow, ↓ak_l, ↓lk_l, ↓si_l, ↓ls_0, ↓ls_s, ↓gb_fr, ↓gb_ow, ↓rb_fr, ↓rb_ow, ↓to_0, ↓to_v, ↓to_b, ↓to_map, ↓to_mapn, ↓tb_fr, ↓tb_ow, ↓bk_0, ↓bk_v, ↓bk_bi, ↓ba_0, ↓ba_s, ↓bk_mapf, ↓bk_mapn, ↓bb_fr, ↓bb_ow, ↓ui_un, ↓set_tag, ↓set_tagf, ↓df_0, ↓sp_0, ↓sp_n, ↓sp_s, ↓fs_0, ↓fs_s, ↓fs_map, ↓ct_0, ↓ct_fr, ↓ct_un, ↓ct_ow, ↓ap_00, ↓ap_0s, ↓ap_s, ↓as_0, ↓as_s, ↓in_v, ↓in_b, ↓ib_fr, ↓ib_ow, ↓fl_v, ↓fr_fd, ↓fl_b, ↓fb_fr, ↓fb_ow, ↓get_look, ↓ln_i, ↓sf_fr, ↓sf_ow, ↓mk_r, ↓w_var, ↓w_view, ↓w_lift, ↓w_frz, ↓w_m1, ↓w_m2, ↓w_mV2, ↓w_m2V, ↓w_tst, ↓w_isN, ↓w_notN, ↓bv_bl, ↓w_andV, ↓w_orV, ↓nv_bl, ↓w_notV, ↓w_ch, ↓pt_i, ↓w_part, ↓w_sl, ↓w_slV, ↓w_cal, ↓w_lenV, ↓w_is, ↓w_isO, ↓w_put, ↓w_set, ↓w_move, ↓w_seq, ↓w_asg, ↓w_app, ↓w_setI, ↓w_items, ↓w_gB, ↓w_rB, ↓w_cl, ↓w_callA, ↓w_gStar, ↓w_fld, ↓get_d1, ↓w_mth, ↓w_mthS, ↓w_prp, ↓w_lenO, ↓w_own2, ↓w_ownB, ↓w_augO, ↓w_setF, ↓w_fn, ↓w_mk, ↓w_arg, ↓w_any, ↓w_kw, ↓selR, ↓selA, ↓sQ_0, ↓sQ_s, ↓st_nx, ↓st_ct, ↓st_bk, ↓st_rt, ↓w_lc, ↓g_ixt, ↓g_ixl, ↓g_ixs, ↓at_0, ↓at_1, ↓at_2, ↓at_3, ↓ix_0, ↓ix_1, ↓ix_2, ↓g_addi, ↓g_adds, ↓g_addt, ↓g_addl, ↓g_muli, ↓g_mult, ↓g_mull, ↓g_sub, ↓g_div, ↓g_mod, ↓g_pow, ↓g_bD, ↓g_lt, ↓g_le, ↓g_gt, ↓g_ge, ↓g_neg, ↓g_bl, ↓g_int, ↓g_lent, ↓g_lenl, ↓g_lens, ↓g_list, ↓g_lisl, ↓g_tupt, ↓g_tupl, ↓g_max, ↓g_min, ↓g_itt, ↓g_itl, ↓g_its, ↓g_slt, ↓g_sll, ↓g_sls, ↓g_rng1, ↓g_rng2, ↓g_enum, ↓g_nm, ↓g_tp, ↓g_gc, ↓g_gn, ↓g_isIntD_non, ↓g_isIntD_bl, ↓g_isIntD_int, ↓g_isIntD_str, ↓g_isIntD_tup, ↓g_isIntD_lst, ↓g_isBoolD_non, ↓g_isBoolD_bl, ↓g_isBoolD_int, ↓g_isBoolD_str, ↓g_isBoolD_tup, ↓g_isBoolD_lst, ↓g_isTupD_non, ↓g_isTupD_bl, ↓g_isTupD_int, ↓g_isTupD_str, ↓g_isTupD_tup, ↓g_isTupD_lst, ↓g_isStrD_non, ↓g_isStrD_bl, ↓g_isStrD_int, ↓g_isStrD_str, ↓g_isStrD_tup, ↓g_isStrD_lst, ↓g_own_non, ↓g_own_bl, ↓g_own_int, ↓g_own_str, ↓g_own_tup, ↓g_own_lst, ↓g_own_ins, ↓g_eqi, ↓g_eqs, ↓g_nei, ↓g_nes, ↓p_bnd, ↓p_ret, ↓p_none, ↓p_fr, ↓p_and, ↓p_or, ↓p_not, ↓p_ifE, ↓p_bl, ↓p_nil, ↓p_cons, ↓p_tup, ↓p_lst, ↓p_drop, ↓p_rt, ↓p_mif, ↓p_for, ↓p_gNil, ↓p_gV, ↓p_gApp, ↓p_rV, ↓p_if, cs_un, cs_fr, List.length_cons, List.length_nil, List.length_map, Nat.zero_add, insD_i, decide_eq_true_eq, Bool.not_eq_true', Bool.not_true, Bool.not_false, decide_eq_false_iff_not, true_and, and_true, ne_eq, not_false_eq_true, List.lookup_cons, Nat.reduceAdd, isN_non, isN_bl, isN_int, isN_str, isN_tup, isN_lst, ↓reduceIte]
      exact h ws l3 hw (by omega) (p3.mono (by omega))

/-! doors -/
def Spots (s : Int) (ms : List Int) : Prop := Wishes s ms ∧ ms.Pairwise (· < ·)
def Pairs2 (s : Int) (ps : List (Int × Int)) : Prop := (∀ p ∈ ps, (0 ≤ p.1 ∧ p.1 < s) ∧ 0 ≤ p.2 ∧ p.2 < s) ∧ (ps.map (·.1)).Pairwise (· < ·)
def pairD (p : Int × Int) : D := .tup [.int p.1, .int p.2]
/-- a door that fits a tree of s locales -/
inductive Gate (s : Int) : D → Prop where
  | head (ws : List Int) (h : Wishes s ws) (hl : ws.length ≤ 40) : Gate s (.tup [.str "head", .tup (ws.map .int)])
  | pad (ws : List Int) (h : Wishes s ws) (hl : ws.length ≤ 40) : Gate s (.tup [.str "pad", .tup (ws.map .int)])
  | only (ms : List Int) (h : Spots s ms) (hl : ms.length ≤ 10) : Gate s (.tup [.str "only", .tup (ms.map .int)])
  | lift (ms : List Int) (h : Spots s ms) (hl : ms.length ≤ 10) : Gate s (.tup [.str "lift", .tup (ms.map .int)])
  | swap (ps : List (Int × Int)) (h : Pairs2 s ps) (hl : ps.length ≤ 10) : Gate s (.tup [.str "swap", .tup (ps.map pairD)])
theorem gate_spec {l : List D} {n s up : Int} {Q : Sl → List Sl → Prop} (hp : Pot n l) (hn : n ≤ 800000000000) (hs : 0 < s) (hs2 : s ≤ 10) (hu : 0 ≤ up) (hu2 : up ≤ 40)
    (h : ∀ d l', Gate s d → Pot (n + 100) l' → Q (.fr d) [.ow (some 0) (.lst l'), .fr (.int s), .fr (.int up)]) : PostF (f_l_drawn_gate Z) [.ow (some 0) (.lst l), .fr (.int s), .fr (.int up)] Q := by
  unfold f_l_drawn_gate b_l_drawn_gate
  simp (decide := true) only [↓k_some, ↓k_no, ↓k_ite, ↓getK_0, ↓getK_s, ↓setK_0, ↓setK_s, ↓ff_0, ↓ff_s, ↓ff_o, ↓fo_l, ↓fo_i, ↓fk_fr, ↓fk_ow, ↓vk_fr, ↓vk_ow, ↓vw_fr, ↓vw_l, ↓mv_fr, ↓mv_ow, ↓sq_nx, ↓sq_bk, ↓sq_ct, ↓sq_rt, ↓fi_rt, ↓fi_nx, ↓ou_0, ↓ou_fr, ↓ou_ow, ↓ou_un, ↓ou_of, ↓ou_on, ↓un_00, ↓un_0s, ↓un_s, ↓rk_fr, ↓rk_un, ↓rk_ow, ↓ak_l, ↓lk_l, ↓si_l, ↓ls_0, ↓ls_s, ↓gb_fr, ↓gb_ow, ↓rb_fr, ↓rb_ow, ↓to_0, ↓to_v, ↓to_b, ↓to_map, ↓to_mapn, ↓tb_fr, ↓tb_ow, ↓bk_0, ↓bk_v, ↓bk_bi, ↓ba_0, ↓ba_s, ↓bk_mapf, ↓bk_mapn, ↓bb_fr, ↓bb_ow, ↓ui_un, ↓set_tag, ↓set_tagf, ↓df_0, ↓sp_0, ↓sp_n, ↓sp_s, ↓fs_0, ↓fs_s, ↓fs_map, ↓ct_0, ↓ct_fr, ↓ct_un, ↓ct_ow, ↓ap_00, ↓ap_0s, ↓ap_s, ↓as_0, ↓as_s, ↓in_v, ↓in_b, ↓ib_fr, ↓ib_ow, ↓fl_v, ↓fr_fd, ↓fl_b, ↓fb_fr, ↓fb_ow, ↓get_look, ↓ln_i, ↓sf_fr, ↓sf_ow, ↓mk_r, ↓w_var, ↓w_view, ↓w_lift, ↓w_frz, ↓w_m1, ↓w_m2, ↓w_mV2, ↓w_m2V, ↓w_tst, ↓w_isN, ↓w_notN, ↓bv_bl, ↓w_andV, ↓w_orV, ↓nv_bl, ↓w_notV, ↓w_ch, ↓pt_i, ↓w_part, ↓w_sl, ↓w_slV, ↓w_cal, ↓w_lenV, ↓w_is, ↓w_isO, ↓w_put, ↓w_set, ↓w_move, ↓w_seq, ↓w_asg, ↓w_app, ↓w_setI, ↓w_items, ↓w_gB, ↓w_rB, ↓w_cl, ↓w_callA, ↓w_gStar, ↓w_fld, ↓get_d1, ↓w_mth, ↓w_mthS, ↓w_prp, ↓w_lenO, ↓w_own2, ↓w_ownB, ↓w_augO, ↓w_setF, ↓w_fn, ↓w_mk, ↓w_arg, ↓w_any, ↓w_kw, ↓selR, ↓selA, ↓sQ_0, ↓sQ_s, ↓st_nx, ↓st_ct, ↓st_bk, ↓st_rt, ↓w_lc, ↓g_ixt, ↓g_ixl, ↓g_ixs, ↓at_0, ↓at_1, ↓at_2, ↓at_3, ↓ix_0, ↓ix_1, ↓ix_2, ↓g_addi, ↓g_adds, ↓g_addt, ↓g_addl, ↓g_muli, ↓g_mult, ↓g_mull, ↓g_sub, ↓g_div, ↓g_mod, ↓g_pow, ↓g_bD, ↓g_lt, ↓g_le, ↓g_gt, ↓g_ge, ↓g_neg, ↓g_bl, ↓g_int, ↓g_lent, ↓g_lenl, ↓g_lens, ↓g_list, ↓g_lisl, ↓g_tupt, ↓g_tupl, ↓g_max, ↓g_min, ↓g_itt, ↓g_itl, ↓g_its, ↓g_slt, ↓g_sll, ↓g_sls, ↓g_rng1, ↓g_rng2, ↓g_enum, ↓g_nm, ↓g_tp, ↓g_gc, ↓g_gn, ↓g_isIntD_non, ↓g_isIntD_bl, ↓g_isIntD_int, ↓g_isIntD_str, ↓g_isIntD_tup, ↓g_isIntD_lst, ↓g_isBoolD_non, ↓g_isBoolD_bl, ↓g_isBoolD_int, ↓g_isBoolD_str, ↓g_isBoolD_tup, ↓g_isBoolD_lst, ↓g_isTupD_non, ↓g_isTupD_bl, ↓g_isTupD_int, ↓g_isTupD_str, ↓g_isTupD_tup, ↓g_isTupD_lst, ↓g_isStrD_non, ↓g_isStrD_bl, ↓g_isStrD_int, ↓g_isStrD_str, ↓g_isStrD_tup, ↓g_isStrD_lst, ↓g_own_non, ↓g_own_bl, ↓g_own_int, ↓g_own_str, ↓g_own_tup, ↓g_own_lst, ↓g_own_ins, ↓g_eqi, ↓g_eqs, ↓g_nei, ↓g_nes, ↓p_bnd, ↓p_ret, ↓p_none, ↓p_fr, ↓p_and, ↓p_or, ↓p_not, ↓p_ifE, ↓p_bl, ↓p_nil, ↓p_cons, ↓p_tup, ↓p_lst, ↓p_drop, ↓p_rt, ↓p_mif, ↓p_for, ↓p_gNil, ↓p_gV, ↓p_gApp, ↓p_rV, ↓p_if, cs_un, cs_fr, List.length_cons, List.length_nil, List.length_map, Nat.zero_add, insD_i, decide_eq_true_eq, Bool.not_eq_true', Bool.not_true, Bool.not_false, decide_eq_false_iff_not, true_and, and_true, ne_eq, not_false_eq_true, List.lookup_cons, Nat.reduceAdd, isN_non, isN_bl, isN_int, isN_str, isN_tup, isN_lst, ↓reduceIte]
  refine pick_spec hp (by omega) (by omega) (by omega) fun d1 l1 a1 a2 p1 => ?_
  simp (decide := true) only [↓k_some, ↓k_no, ↓k_ite, ↓getK_0, ↓getK_s, ↓setK_0, ↓setK_s, ↓ff_0, ↓ff_s, ↓ff_o, ↓fo_l, ↓fo_i, ↓fk_fr, ↓fk_ow, ↓vk_fr, ↓vk_ow, ↓vw_fr, ↓vw_l, ↓mv_fr, ↓mv_ow, ↓sq_nx, ↓sq_bk, ↓sq_ct, ↓sq_rt, ↓fi_rt, ↓fi_nx, ↓ou_0, ↓ou_fr, ↓ou_ow, ↓ou_un, ↓ou_of, ↓ou_on, ↓un_00, ↓un_0s, ↓un_s, ↓rk_fr, ↓rk_un, ↓rk_ow, ↓ak_l, ↓lk_l, ↓si_l, ↓ls_0, ↓ls_s, ↓gb_fr, ↓gb_ow, ↓rb_fr, ↓rb_ow, ↓to_0, ↓to_v, ↓to_b, ↓to_map, ↓to_mapn, ↓tb_fr, ↓tb_ow, ↓bk_0, ↓bk_v, ↓bk_bi, ↓ba_0, ↓ba_s, ↓bk_mapf, ↓bk_mapn, ↓bb_fr, ↓bb_ow, ↓ui_un, ↓set_tag, ↓set_tagf, ↓df_0, ↓sp_0, ↓sp_n, ↓sp_s, ↓fs_0, ↓fs_s, ↓fs_map, ↓ct_0, ↓ct_fr, ↓ct_un, ↓ct_ow, ↓ap_00, ↓ap_0s, ↓ap_s, ↓as_0, ↓as_s, ↓in_v, ↓in_b, ↓ib_fr, ↓ib_ow, ↓fl_v, ↓fr_fd, ↓fl_b, ↓fb_fr, ↓fb_ow, ↓get_look, ↓ln_i, ↓sf_fr, ↓sf_ow, ↓mk_r, ↓w_var, ↓w_view, ↓w_lift, ↓w_frz, ↓w_m1, ↓w_m2, ↓w_mV2, ↓w_m2V, ↓w_tst, ↓w_isN, ↓w_notN, ↓bv_bl, ↓w_andV, ↓w_orV, ↓nv_bl, ↓w_notV, ↓w_ch, ↓pt_i, ↓w_part, ↓w_sl, ↓w_slV, ↓w_cal, ↓w_lenV, ↓w_is, ↓w_isO, ↓w_put, ↓w_set, ↓w_move, ↓w_seq, ↓w_asg, ↓w_app, ↓w_setI, ↓w_items, ↓w_gB, ↓w_rB, ↓w_cl, ↓w_callA, ↓w_gStar, ↓w_fld, ↓get_d1, ↓w_mth, ↓w_mthS, ↓w_prp, ↓w_lenO, ↓w_own2, ↓w_ownB, ↓w_augO, ↓w_setF, ↓w_fn, ↓w_mk, ↓w_arg, ↓w_any, ↓w_kw, ↓selR, ↓selA, ↓sQ_0, ↓sQ_s, ↓st_nx, ↓st_ct, ↓st_bk, ↓st_rt, ↓w_lc, ↓g_ixt, ↓g_ixl, ↓g_ixs, ↓at_0, ↓at_1, ↓at_2, ↓at_3, ↓ix_0, ↓ix_1, ↓ix_2, ↓g_addi, ↓g_adds, ↓g_addt, ↓g_addl, ↓g_muli, ↓g_mult, ↓g_mull, ↓g_sub, ↓g_div, ↓g_mod, ↓g_pow, ↓g_bD, ↓g_lt, ↓g_le, ↓g_gt, ↓g_ge, ↓g_neg, ↓g_bl, ↓g_int, ↓g_lent, ↓g_lenl, ↓g_lens, ↓g_list, ↓g_lisl, ↓g_tupt, ↓g_tupl, ↓g_max, ↓g_min, ↓g_itt, ↓g_itl, ↓g_its, ↓g_slt, ↓g_sll, ↓g_sls, ↓g_rng1, ↓g_rng2, ↓g_enum, ↓g_nm, ↓g_tp, ↓g_gc, ↓g_gn, ↓g_isIntD_non, ↓g_isIntD_bl, ↓g_isIntD_int, ↓g_isIntD_str, ↓g_isIntD_tup, ↓g_isIntD_lst, ↓g_isBoolD_non, ↓g_isBoolD_bl, ↓g_isBoolD_int, ↓g_isBoolD_str, ↓g_isBoolD_tup, ↓g_isBoolD_lst, ↓g_isTupD_non, ↓g_isTupD_bl, ↓g_isTupD_int, ↓g_isTupD_str, ↓g_isTupD_tup, ↓g_isTupD_lst, ↓g_isStrD_non, ↓g_isStrD_bl, ↓g_isStrD_int, ↓g_isStrD_str, ↓g_isStrD_tup, ↓g_isStrD_lst, ↓g_own_non, ↓g_own_bl, ↓g_own_int, ↓g_own_str, ↓g_own_tup, ↓g_own_lst, ↓g_own_ins, ↓g_eqi, ↓g_eqs, ↓g_nei, ↓g_nes, ↓p_bnd, ↓p_ret, ↓p_none, ↓p_fr, ↓p_and, ↓p_or, ↓p_not, ↓p_ifE, ↓p_bl, ↓p_nil, ↓p_cons, ↓p_tup, ↓p_lst, ↓p_drop, ↓p_rt, ↓p_mif, ↓p_for, ↓p_gNil, ↓p_gV, ↓p_gApp, ↓p_rV, ↓p_if, cs_un, cs_fr, List.length_cons, List.length_nil, List.length_map, Nat.zero_add, insD_i, decide_eq_true_eq, Bool.not_eq_true', Bool.not_true, Bool.not_false, decide_eq_false_iff_not, true_and, and_true, ne_eq, not_false_eq_true, List.lookup_cons, Nat.reduceAdd, isN_non, isN_bl, isN_int, isN_str, isN_tup, isN_lst, ↓reduceIte]
  obtain ⟨w, ew, sw, hw⟩ : ∃ w : Str, L2.atI [D.str "only", .str "lift", .str "swap", .str "head", .str "pad"] d1 = some (.str w) ∧ SeqAt.shaped (.str w) = true ∧ (w = "head" ∨ w = "pad" ∨ w = "only" ∨ w = "lift" ∨ w = "swap") := by
    rcases (show d1 = 0 ∨ d1 = 1 ∨ d1 = 2 ∨ d1 = 3 ∨ d1 = 4 by omega) with e | e | e | e | e <;> subst e <;> exact ⟨_, rfl, by decide +kernel, by simp⟩
  rw [ew]
  simp (decide := true) only [↓k_some, ↓k_no, ↓k_ite, ↓getK_0, ↓getK_s, ↓setK_0, ↓setK_s, ↓ff_0, ↓ff_s, ↓ff_o, ↓fo_l, ↓fo_i, ↓fk_fr, ↓fk_ow, ↓vk_fr, ↓vk_ow, ↓vw_fr, ↓vw_l, ↓mv_fr, ↓mv_ow, ↓sq_nx, ↓sq_bk, ↓sq_ct, ↓sq_rt, ↓fi_rt, ↓fi_nx, ↓ou_0, ↓ou_fr, ↓ou_ow, ↓ou_un, ↓ou_of, ↓ou_on, ↓un_00, ↓un_0s, ↓un_s, ↓rk_fr, ↓rk_un, ↓rk_ow, ↓ak_l, ↓lk_l, ↓si_l, ↓ls_0, ↓ls_s, ↓gb_fr, ↓gb_ow, ↓rb_fr, ↓rb_ow, ↓to_0, ↓to_v, ↓to_b, ↓to_map, ↓to_mapn, ↓tb_fr, ↓tb_ow, ↓bk_0, ↓bk_v, ↓bk_bi, ↓ba_0, ↓ba_s, ↓bk_mapf, ↓bk_mapn, ↓bb_fr, ↓bb_ow, ↓ui_un, ↓set_tag, ↓set_tagf, ↓df_0, ↓sp_0, ↓sp_n, ↓sp_s, ↓fs_0, ↓fs_s, ↓fs_map, ↓ct_0, ↓ct_fr, ↓ct_un, ↓ct_ow, ↓ap_00, ↓ap_0s, ↓ap_s, ↓as_0, ↓as_s, ↓in_v, ↓in_b, ↓ib_fr, ↓ib_ow, ↓fl_v, ↓fr_fd, ↓fl_b, ↓fb_fr, ↓fb_ow, ↓get_look, ↓ln_i, ↓sf_fr, ↓sf_ow, ↓mk_r, ↓w_var, ↓w_view, ↓w_lift, ↓w_frz, ↓w_m1, ↓w_m2, ↓w_mV2, ↓w_m2V, ↓w_tst, ↓w_isN, ↓w_notN, ↓bv_bl, ↓w_andV, ↓w_orV, ↓nv_bl, ↓w_notV, ↓w_ch, ↓pt_i, ↓w_part, ↓w_sl, ↓w_slV, ↓w_cal, ↓w_lenV, ↓w_is, ↓w_isO, ↓w_put, ↓w_set, ↓w_move, ↓w_seq, ↓w_asg, ↓w_app, ↓w_setI, ↓w_items, ↓w_gB, ↓w_rB, ↓w_cl, ↓w_callA, ↓w_gStar, ↓w_fld, ↓get_d1, ↓w_mth, ↓w_mthS, ↓w_prp, ↓w_lenO, ↓w_own2, ↓w_ownB, ↓w_augO, ↓w_setF, ↓w_fn, ↓w_mk, ↓w_arg, ↓w_any, ↓w_kw, ↓selR, ↓selA, ↓sQ_0, ↓sQ_s, ↓st_nx, ↓st_ct, ↓st_bk, ↓st_rt, ↓w_lc, ↓g_ixt, ↓g_ixl, ↓g_ixs, ↓at_0, ↓at_1, ↓at_2, ↓at_3, ↓ix_0, ↓ix_1, ↓ix_2, ↓g_addi, ↓g_adds, ↓g_addt, ↓g_addl, ↓g_muli, ↓g_mult, ↓g_mull, ↓g_sub, ↓g_div, ↓g_mod, ↓g_pow, ↓g_bD, ↓g_lt, ↓g_le, ↓g_gt, ↓g_ge, ↓g_neg, ↓g_bl, ↓g_int, ↓g_lent, ↓g_lenl, ↓g_lens, ↓g_list, ↓g_lisl, ↓g_tupt, ↓g_tupl, ↓g_max, ↓g_min, ↓g_itt, ↓g_itl, ↓g_its, ↓g_slt, ↓g_sll, ↓g_sls, ↓g_rng1, ↓g_rng2, ↓g_enum, ↓g_nm, ↓g_tp, ↓g_gc, ↓g_gn, ↓g_isIntD_non, ↓g_isIntD_bl, ↓g_isIntD_int, ↓g_isIntD_str, ↓g_isIntD_tup, ↓g_isIntD_lst, ↓g_isBoolD_non, ↓g_isBoolD_bl, ↓g_isBoolD_int, ↓g_isBoolD_str, ↓g_isBoolD_tup, ↓g_isBoolD_lst, ↓g_isTupD_non, ↓g_isTupD_bl, ↓g_isTupD_int, ↓g_isTupD_str, ↓g_isTupD_tup, ↓g_isTupD_lst, ↓g_isStrD_non, ↓g_isStrD_bl, ↓g_isStrD_int, ↓g_isStrD_str, ↓g_isStrD_tup, ↓g_isStrD_lst, ↓g_own_non, ↓g_own_bl, ↓g_own_int, ↓g_own_str, ↓g_own_tup, ↓g_own_lst, ↓g_own_ins, ↓g_eqi, ↓g_eqs, ↓g_nei, ↓g_nes, ↓p_bnd, ↓p_ret, ↓p_none, ↓p_fr, ↓p_and, ↓p_or, ↓p_not, ↓p_ifE, ↓p_bl, ↓p_nil, ↓p_cons, ↓p_tup, ↓p_lst, ↓p_drop, ↓p_rt, ↓p_mif, ↓p_for, ↓p_gNil, ↓p_gV, ↓p_gApp, ↓p_rV, ↓p_if, cs_un, cs_fr, List.length_cons, List.length_nil, List.length_map, Nat.zero_add, insD_i, decide_eq_true_eq, Bool.not_eq_true', Bool.not_true, Bool.not_false, decide_eq_false_iff_not, true_and, and_true, ne_eq, not_false_eq_true, List.lookup_cons, Nat.reduceAdd, isN_non, isN_bl, isN_int, isN_str, isN_tup, isN_lst, ↓reduceIte]
  have asks : ∀ {z : Str}, (∀ ws, Wishes s ws → ws.length ≤ 40 → Gate s (.tup [.str z, .tup (ws.map .int)])) → PostF (f_l_drawn_asks Z) [.ow (some 0) (.lst l1), .fr (.int s), .fr (.int up)] fun r bs => backK [.ow (some 0) (.lst l1), .fr (.int s), .fr (.int up), .fr (.str z), .un, .un, .un] [.b 0, .v (.int s), .v (.int up)] bs [.un, .fr (.int s), .fr (.int up), .fr (.str z), .un, .un, .un] fun a3 => retK r fun r' => frzK r' fun d => outK [.ow (some 0) (.lst l), .fr (.int s), .fr (.int up)] a3 fun l => Q (.fr (.tup [.str z, d])) l := fun {z} hz => by
    refine asks_spec p1 (by omega) hs hs2 hu hu2 fun ws l2 b1 b2 p2 => ?_
    simp (decide := true) only [↓k_some, ↓k_no, ↓k_ite, ↓getK_0, ↓getK_s, ↓setK_0, ↓setK_s, ↓ff_0, ↓ff_s, ↓ff_o, ↓fo_l, ↓fo_i, ↓fk_fr, ↓fk_ow, ↓vk_fr, ↓vk_ow, ↓vw_fr, ↓vw_l, ↓mv_fr, ↓mv_ow, ↓sq_nx, ↓sq_bk, ↓sq_ct, ↓sq_rt, ↓fi_rt, ↓fi_nx, ↓ou_0, ↓ou_fr, ↓ou_ow, ↓ou_un, ↓ou_of, ↓ou_on, ↓un_00, ↓un_0s, ↓un_s, ↓rk_fr, ↓rk_un, ↓rk_ow, ↓ak_l, ↓lk_l, ↓si_l, ↓ls_0, ↓ls_s, ↓gb_fr, ↓gb_ow, ↓rb_fr, ↓rb_ow, ↓to_0, ↓to_v, ↓to_b, ↓to_map, ↓to_mapn, ↓tb_fr, ↓tb_ow, ↓bk_0, ↓bk_v, ↓bk_bi, ↓ba_0, ↓ba_s, ↓bk_mapf, ↓bk_mapn, ↓bb_fr, ↓bb_ow, ↓ui_un, ↓set_tag, ↓set_tagf, ↓df_0, ↓sp_0, ↓sp_n, ↓sp_s, ↓fs_0, ↓fs_s, ↓fs_map, ↓ct_0, ↓ct_fr, ↓ct_un, ↓ct_ow, ↓ap_00, ↓ap_0s, ↓ap_s, ↓as_0, ↓as_s, ↓in_v, ↓in_b, ↓ib_fr, ↓ib_ow, ↓fl_v, ↓fr_fd, ↓fl_b, ↓fb_fr, ↓fb_ow, ↓get_look, ↓ln_i, ↓sf_fr, ↓sf_ow, ↓mk_r, ↓w_var, ↓w_view, ↓w_lift, ↓w_frz, ↓w_m1, ↓w_m2, ↓w_mV2, ↓w_m2V, ↓w_tst, ↓w_isN, ↓w_notN, ↓bv_bl, ↓w_andV, ↓w_orV, ↓nv_bl, ↓w_notV, ↓w_ch, ↓pt_i, ↓w_part, ↓w_sl, ↓w_slV, ↓w_cal, ↓w_lenV, ↓w_is, ↓w_isO, ↓w_put, ↓w_set, ↓w_move, ↓w_seq, ↓w_asg, ↓w_app, ↓w_setI, ↓w_items, ↓w_gB, ↓w_rB, ↓w_cl, ↓w_callA, ↓w_gStar, ↓w_fld, ↓get_d1, ↓w_mth, ↓w_mthS, ↓w_prp, ↓w_lenO, ↓w_own2, ↓w_ownB, ↓w_augO, ↓w_setF, ↓w_fn, ↓w_mk, ↓w_arg, ↓w_any, ↓w_kw, ↓selR, ↓selA, ↓sQ_0, ↓sQ_s, ↓st_nx, ↓st_ct, ↓st_bk, ↓st_rt, ↓w_lc, ↓g_ixt, ↓g_ixl, ↓g_ixs, ↓at_0, ↓at_1, ↓at_2, ↓at_3, ↓ix_0, ↓ix_1, ↓ix_2, ↓g_addi, ↓g_adds, ↓g_addt, ↓g_addl, ↓g_muli, ↓g_mult, ↓g_mull, ↓g_sub, ↓g_div, ↓g_mod, ↓g_pow, ↓g_bD, ↓g_lt, ↓g_le, ↓g_gt, ↓g_ge, ↓g_neg, ↓g_bl, ↓g_int, ↓g_lent, ↓g_lenl, ↓g_lens, ↓g_list, ↓g_lisl, ↓g_tupt, ↓g_tupl, ↓g_max, ↓g_min, ↓g_itt, ↓g_itl, ↓g_its, ↓g_slt, ↓g_sll, ↓g_sls, ↓g_rng1, ↓g_rng2, ↓g_enum, ↓g_nm, ↓g_tp, ↓g_gc, ↓g_gn, ↓g_isIntD_non, ↓g_isIntD_bl, ↓g_isIntD_int, ↓g_isIntD_str, ↓g_isIntD_tup, ↓g_isIntD_lst, ↓g_isBoolD_non, ↓g_isBoolD_bl, ↓g_isBoolD_int, ↓g_isBoolD_str, ↓g_isBoolD_tup, ↓g_isBoolD_lst, ↓g_isTupD_non, ↓g_isTupD_bl, ↓g_isTupD_int, ↓g_isTupD_str, ↓g_isTupD_tup, ↓g_isTupD_lst, ↓g_isStrD_non, ↓g_isStrD_bl, ↓g_isStrD_int, ↓g_isStrD_str, ↓g_isStrD_tup, ↓g_isStrD_lst, ↓g_own_non, ↓g_own_bl, ↓g_own_int, ↓g_own_str, ↓g_own_tup, ↓g_own_lst, ↓g_own_ins, ↓g_eqi, ↓g_eqs, ↓g_nei, ↓g_nes, ↓p_bnd, ↓p_ret, ↓p_none, ↓p_fr, ↓p_and, ↓p_or, ↓p_not, ↓p_ifE, ↓p_bl, ↓p_nil, ↓p_cons, ↓p_tup, ↓p_lst, ↓p_drop, ↓p_rt, ↓p_mif, ↓p_for, ↓p_gNil, ↓p_gV, ↓p_gApp, ↓p_rV, ↓p_if, cs_un, cs_fr, List.length_cons, List.length_nil, List.length_map, Nat.zero_add, insD_i, decide_eq_true_eq, Bool.not_eq_true', Bool.not_true, Bool.not_false, decide_eq_false_iff_not, true_and, and_true, ne_eq, not_false_eq_true, List.lookup_cons, Nat.reduceAdd, isN_non, isN_bl, isN_int, isN_str, isN_tup, isN_lst, ↓reduceIte]
    exact h _ _ (hz ws b1 (by omega)) (p2.mono (by omega))
  refine ⟨⟨sw, by decide +kernel⟩, ?_⟩
  split
  · rename_i e
    subst e
    exact asks fun ws h1 h2 => .head ws h1 h2
  · rename_i n1
    refine ⟨⟨sw, by decide +kernel⟩, ?_⟩
    split
    · rename_i e
      subst e
      exact asks fun ws h1 h2 => .pad ws h1 h2
    · rename_i n2
      refine pick_spec p1 (by omega) (by omega) (by omega) fun d2 l2 b1 b2 p2 => ?_
      simp (decide := true) only [↓k_some, ↓k_no, ↓k_ite, ↓getK_0, ↓getK_s, ↓setK_0, ↓setK_s, ↓ff_0, ↓ff_s, ↓ff_o, ↓fo_l, ↓fo_i, ↓fk_fr, ↓fk_ow, ↓vk_fr, ↓vk_ow, ↓vw_fr, ↓vw_l, ↓mv_fr, ↓mv_ow, ↓sq_nx, ↓sq_bk, ↓sq_ct, ↓sq_rt, ↓fi_rt, ↓fi_nx, ↓ou_0, ↓ou_fr, ↓ou_ow, ↓ou_un, ↓ou_of, ↓ou_on, ↓un_00, ↓un_0s, ↓un_s, ↓rk_fr, ↓rk_un, ↓rk_ow, ↓ak_l, ↓lk_l, ↓si_l, ↓ls_0, ↓ls_s, ↓gb_fr, ↓gb_ow, ↓rb_fr, ↓rb_ow, ↓to_0, ↓to_v, ↓to_b, ↓to_map, ↓to_mapn, ↓tb_fr, ↓tb_ow, ↓bk_0, ↓bk_v, ↓bk_bi, ↓ba_0, ↓ba_s, ↓bk_mapf, ↓bk_mapn, ↓bb_fr, ↓bb_ow, ↓ui_un, ↓set_tag, ↓set_tagf, ↓df_0, ↓sp_0, ↓sp_n, ↓sp_s, ↓fs_0, ↓fs_s, ↓fs_map, ↓ct_0, ↓ct_fr, ↓ct_un, ↓ct_ow, ↓ap_00, ↓ap_0s, ↓ap_s, ↓as_0, ↓as_s, ↓in_v, ↓in_b, ↓ib_fr, ↓ib_ow, ↓fl_v, ↓fr_fd, ↓fl_b, ↓fb_fr, ↓fb_ow, ↓get_look, ↓ln_i, ↓sf_fr, ↓sf_ow, ↓mk_r, ↓w_var, ↓w_view, ↓w_lift, ↓w_frz, ↓w_m1, ↓w_m2, ↓w_mV2, ↓w_m2V, ↓w_tst, ↓w_isN, ↓w_notN, ↓bv_bl, ↓w_andV, ↓w_orV, ↓nv_bl, ↓w_notV, ↓w_ch, ↓pt_i, ↓w_part, ↓w_sl, ↓w_slV, ↓w_cal, ↓w_lenV, ↓w_is, ↓w_isO, ↓w_put, ↓w_set, ↓w_move, ↓w_seq, ↓w_asg, ↓w_app, ↓w_setI, ↓w_items, ↓w_gB, ↓w_rB, ↓w_cl, ↓w_callA, ↓w_gStar, ↓w_fld, ↓get_d1, ↓w_mth, ↓w_mthS, ↓w_prp, ↓w_lenO, ↓w_own2, ↓w_ownB, ↓w_augO, ↓w_setF, ↓w_fn, ↓w_mk, ↓w_arg, ↓w_any, ↓w_kw, ↓selR, ↓selA, ↓sQ_0, ↓sQ_s, ↓st_nx, ↓st_ct, ↓st_bk, ↓st_rt, ↓w_lc, ↓g_ixt, ↓g_ixl, ↓g_ixs, ↓at_0, ↓at_1, ↓at_2, ↓at_3, ↓ix_0, ↓ix_1, ↓ix_2, ↓g_addi, ↓g_adds, ↓g_addt, ↓g_addl, ↓g_muli, ↓g_mult, ↓g_mull, ↓g_sub, ↓g_div, ↓g_mod, ↓g_pow, ↓g_bD, ↓g_lt, ↓g_le, ↓g_gt, ↓g_ge, ↓g_neg, ↓g_bl, ↓g_int, ↓g_lent, ↓g_lenl, ↓g_lens, ↓g_list, ↓g_lisl, ↓g_tupt, ↓g_tupl, ↓g_max, ↓g_min, ↓g_itt, ↓g_itl, ↓g_its, ↓g_slt, ↓g_sll, ↓g_sls, ↓g_rng1, ↓g_rng2, ↓g_enum, ↓g_nm, ↓g_tp, ↓g_gc, ↓g_gn, ↓g_isIntD_non, ↓g_isIntD_bl, ↓g_isIntD_int, ↓g_isIntD_str, ↓g_isIntD_tup, ↓g_isIntD_lst, ↓g_isBoolD_non, ↓g_isBoolD_bl, ↓g_isBoolD_int, ↓g_isBoolD_str, ↓g_isBoolD_tup, ↓g_isBoolD_lst, ↓g_isTupD_non, ↓g_isTupD_bl, ↓g_isTupD_int, ↓g_isTupD_str, ↓g_isTupD_tup, ↓g_isTupD_lst, ↓g_isStrD_non, ↓g_isStrD_bl, ↓g_isStrD_int, ↓g_isStrD_str, ↓g_isStrD_tup, ↓g_isStrD_lst, ↓g_own_non, ↓g_own_bl, ↓g_own_int, ↓g_own_str, ↓g_own_tup, ↓g_own_lst, ↓g_own_ins, ↓g_eqi, ↓g_eqs, ↓g_nei, ↓g_nes, ↓p_bnd, ↓p_ret, ↓p_none, ↓p_fr, ↓p_and, ↓p_or, ↓p_not, ↓p_ifE, ↓p_bl, ↓p_nil, ↓p_cons, ↓p_tup, ↓p_lst, ↓p_drop, ↓p_rt, ↓p_mif, ↓p_for, ↓p_gNil, ↓p_gV, ↓p_gApp, ↓p_rV, ↓p_if, cs_un, cs_fr, List.length_cons, List.length_nil, List.length_map, Nat.zero_add, insD_i, decide_eq_true_eq, Bool.not_eq_true', Bool.not_true, Bool.not_false, decide_eq_false_iff_not, true_and, and_true, ne_eq, not_false_eq_true, List.lookup_cons, Nat.reduceAdd, isN_non, isN_bl, isN_int, isN_str, isN_tup, isN_lst, ↓reduceIte]
      obtain ⟨o, eo, o1, o2⟩ : ∃ o : Int, L2.atI [D.int 2, .int 3, .int 1] d2 = some (.int o) ∧ 0 < o ∧ o < 10 := by
        rcases (show d2 = 0 ∨ d2 = 1 ∨ d2 = 2 by omega) with e | e | e <;> subst e <;> exact ⟨_, rfl, by decide, by decide⟩
      rw [eo]
      simp (decide := true) only [↓k_some, ↓k_no, ↓k_ite, ↓getK_0, ↓getK_s, ↓setK_0, ↓setK_s, ↓ff_0, ↓ff_s, ↓ff_o, ↓fo_l, ↓fo_i, ↓fk_fr, ↓fk_ow, ↓vk_fr, ↓vk_ow, ↓vw_fr, ↓vw_l, ↓mv_fr, ↓mv_ow, ↓sq_nx, ↓sq_bk, ↓sq_ct, ↓sq_rt, ↓fi_rt, ↓fi_nx, ↓ou_0, ↓ou_fr, ↓ou_ow, ↓ou_un, ↓ou_of, ↓ou_on, ↓un_00, ↓un_0s, ↓un_s, ↓rk_fr, ↓rk_un, ↓rk_ow, ↓ak_l, ↓lk_l, ↓si_l, ↓ls_0, ↓ls_s, ↓gb_fr, ↓gb_ow, ↓rb_fr, ↓rb_ow, ↓to_0, ↓to_v, ↓to_b, ↓to_map, ↓to_mapn, ↓tb_fr, ↓tb_ow, ↓bk_0, ↓bk_v, ↓bk_bi, ↓ba_0, ↓ba_s, ↓bk_mapf, ↓bk_mapn, ↓bb_fr, ↓bb_ow, ↓ui_un, ↓set_tag, ↓set_tagf, ↓df_0, ↓sp_0, ↓sp_n, ↓sp_s, ↓fs_0, ↓fs_s, ↓fs_map, ↓ct_0, ↓ct_fr, ↓ct_un, ↓ct_ow, ↓ap_00, ↓ap_0s, ↓ap_s, ↓as_0, ↓as_s, ↓in_v, ↓in_b, ↓ib_fr, ↓ib_ow, ↓fl_v, ↓fr_fd, ↓fl_b, ↓fb_fr, ↓fb_ow, ↓get_look, ↓ln_i, ↓sf_fr, ↓sf_ow, ↓mk_r, ↓w_var, ↓w_view, ↓w_lift, ↓w_frz, ↓w_m1, ↓w_m2, ↓w_mV2, ↓w_m2V, ↓w_tst, ↓w_isN, ↓w_notN, ↓bv_bl, ↓w_andV, ↓w_orV, ↓nv_bl, ↓w_notV, ↓w_ch, ↓pt_i, ↓w_part, ↓w_sl, ↓w_slV, ↓w_cal, ↓w_lenV, ↓w_is, ↓w_isO, ↓w_put, ↓w_set, ↓w_move, ↓w_seq, ↓w_asg, ↓w_app, ↓w_setI, ↓w_items, ↓w_gB, ↓w_rB, ↓w_cl, ↓w_callA, ↓w_gStar, ↓w_fld, ↓get_d1, ↓w_mth, ↓w_mthS, ↓w_prp, ↓w_lenO, ↓w_own2, ↓w_ownB, ↓w_augO, ↓w_setF, ↓w_fn, ↓w_mk, ↓w_arg, ↓w_any, ↓w_kw, ↓selR, ↓selA, ↓sQ_0, ↓sQ_s, ↓st_nx, ↓st_ct, ↓st_bk, ↓st_rt, ↓w_lc, ↓g_ixt, ↓g_ixl, ↓g_ixs, ↓at_0, ↓at_1, ↓at_2, ↓at_3, ↓ix_0, ↓ix_1, ↓ix_2, ↓g_addi, ↓g_adds, ↓g_addt, ↓g_addl, ↓g_muli, ↓g_mult, ↓g_mull, ↓g_sub, ↓g_div, ↓g_mod, ↓g_pow, ↓g_bD, ↓g_lt, ↓g_le, ↓g_gt, ↓g_ge, ↓g_neg, ↓g_bl, ↓g_int, ↓g_lent, ↓g_lenl, ↓g_lens, ↓g_list, ↓g_lisl, ↓g_tupt, ↓g_tupl, ↓g_max, ↓g_min, ↓g_itt, ↓g_itl, ↓g_its, ↓g_slt, ↓g_sll, ↓g_sls, ↓g_rng1, ↓g_rng2, ↓g_enum, ↓g_nm, ↓g_tp, ↓g_gc, ↓g_gn, ↓g_isIntD_non, ↓g_isIntD_bl, ↓g_isIntD_int, ↓g_isIntD_str, ↓g_isIntD_tup, ↓g_isIntD_lst, ↓g_isBoolD_non, ↓g_isBoolD_bl, ↓g_isBoolD_int, ↓g_isBoolD_str, ↓g_isBoolD_tup, ↓g_isBoolD_lst, ↓g_isTupD_non, ↓g_isTupD_bl, ↓g_isTupD_int, ↓g_isTupD_str, ↓g_isTupD_tup, ↓g_isTupD_lst, ↓g_isStrD_non, ↓g_isStrD_bl, ↓g_isStrD_int, ↓g_isStrD_str, ↓g_isStrD_tup, ↓g_isStrD_lst, ↓g_own_non, ↓g_own_bl, ↓g_own_int, ↓g_own_str, ↓g_own_tup, ↓g_own_lst, ↓g_own_ins, ↓g_eqi, ↓g_eqs, ↓g_nei, ↓g_nes, ↓p_bnd, ↓p_ret, ↓p_none, ↓p_fr, ↓p_and, ↓p_or, ↓p_not, ↓p_ifE, ↓p_bl, ↓p_nil, ↓p_cons, ↓p_tup, ↓p_lst, ↓p_drop, ↓p_rt, ↓p_mif, ↓p_for, ↓p_gNil, ↓p_gV, ↓p_gApp, ↓p_rV, ↓p_if, cs_un, cs_fr, List.length_cons, List.length_nil, List.length_map, Nat.zero_add, insD_i, decide_eq_true_eq, Bool.not_eq_true', Bool.not_true, Bool.not_false, decide_eq_false_iff_not, true_and, and_true, ne_eq, not_false_eq_true, List.lookup_cons, Nat.reduceAdd, isN_non, isN_bl, isN_int, isN_str, isN_tup, isN_lst, ↓reduceIte]
      refine ⟨⟨by omega, by omega⟩, by rw [rngD_len]; exact Nat.le_trans (by omega : s.toNat ≤ 100) (by decide), ?_⟩
      refine LcK.inv (fun k acc a => ∃ (l3 : List D) (ms : List Int), acc = ms.map .int ∧ ms.length ≤ k ∧ (∀ m ∈ ms, 0 ≤ m ∧ m < k) ∧ ms.Pairwise (· < ·) ∧ Pot (n + 2 + k) l3 ∧ a = [.ow (some 0) (.lst l3), .fr (.int s), .fr (.int up), .fr (.str w), .fr (.int o), .un, .un]) ⟨l2, [], rfl, Nat.le_refl _, fun m hm => (nomatch hm), .nil, p2.mono (by simp; omega), rfl⟩ (fun k d acc a hd hI => ?_) (fun acc a' hI => ?_)
      · obtain ⟨l3, ms, rfl, hl, hm, hp', p3, rfl⟩ := hI
        obtain ⟨hk, rfl⟩ := rngD_at hd
        simp (decide := true) only [↓k_some, ↓k_no, ↓k_ite, ↓getK_0, ↓getK_s, ↓setK_0, ↓setK_s, ↓ff_0, ↓ff_s, ↓ff_o, ↓fo_l, ↓fo_i, ↓fk_fr, ↓fk_ow, ↓vk_fr, ↓vk_ow, ↓vw_fr, ↓vw_l, ↓mv_fr, ↓mv_ow, ↓sq_nx, ↓sq_bk, ↓sq_ct, ↓sq_rt, ↓fi_rt, ↓fi_nx, ↓ou_0, ↓ou_fr, ↓ou_ow, ↓ou_un, ↓ou_of, ↓ou_on, ↓un_00, ↓un_0s, ↓un_s, ↓rk_fr, ↓rk_un, ↓rk_ow, ↓ak_l, ↓lk_l, ↓si_l, ↓ls_0, ↓ls_s, ↓gb_fr, ↓gb_ow, ↓rb_fr, ↓rb_ow, ↓to_0, ↓to_v, ↓to_b, ↓to_map, ↓to_mapn, ↓tb_fr, ↓tb_ow, ↓bk_0, ↓bk_v, ↓bk_bi, ↓ba_0, ↓ba_s, ↓bk_mapf, ↓bk_mapn, ↓bb_fr, ↓bb_ow, ↓ui_un, ↓set_tag, ↓set_tagf, ↓df_0, ↓sp_0, ↓sp_n, ↓sp_s, ↓fs_0, ↓fs_s, ↓fs_map, ↓ct_0, ↓ct_fr, ↓ct_un, ↓ct_ow, ↓ap_00, ↓ap_0s, ↓ap_s, ↓as_0, ↓as_s, ↓in_v, ↓in_b, ↓ib_fr, ↓ib_ow, ↓fl_v, ↓fr_fd, ↓fl_b, ↓fb_fr, ↓fb_ow, ↓get_look, ↓ln_i, ↓sf_fr, ↓sf_ow, ↓mk_r, ↓w_var, ↓w_view, ↓w_lift, ↓w_frz, ↓w_m1, ↓w_m2, ↓w_mV2, ↓w_m2V, ↓w_tst, ↓w_isN, ↓w_notN, ↓bv_bl, ↓w_andV, ↓w_orV, ↓nv_bl, ↓w_notV, ↓w_ch, ↓pt_i, ↓w_part, ↓w_sl, ↓w_slV, ↓w_cal, ↓w_lenV, ↓w_is, ↓w_isO, ↓w_put, ↓w_set, ↓w_move, ↓w_seq, ↓w_asg, ↓w_app, ↓w_setI, ↓w_items, ↓w_gB, ↓w_rB, ↓w_cl, ↓w_callA, ↓w_gStar, ↓w_fld, ↓get_d1, ↓w_mth, ↓w_mthS, ↓w_prp, ↓w_lenO, ↓w_own2, ↓w_ownB, ↓w_augO, ↓w_setF, ↓w_fn, ↓w_mk, ↓w_arg, ↓w_any, ↓w_kw, ↓selR, ↓selA, ↓sQ_0, ↓sQ_s, ↓st_nx, ↓st_ct, ↓st_bk, ↓st_rt, ↓w_lc, ↓g_ixt, ↓g_ixl, ↓g_ixs, ↓at_0, ↓at_1, ↓at_2, ↓at_3, ↓ix_0, ↓ix_1, ↓ix_2, ↓g_addi, ↓g_adds, ↓g_addt, ↓g_addl, ↓g_muli, ↓g_mult, ↓g_mull, ↓g_sub, ↓g_div, ↓g_mod, ↓g_pow, ↓g_bD, ↓g_lt, ↓g_le, ↓g_gt, ↓g_ge, ↓g_neg, ↓g_bl, ↓g_int, ↓g_lent, ↓g_lenl, ↓g_lens, ↓g_list, ↓g_lisl, ↓g_tupt, ↓g_tupl, ↓g_max, ↓g_min, ↓g_itt, ↓g_itl, ↓g_its, ↓g_slt, ↓g_sll, ↓g_sls, ↓g_rng1, ↓g_rng2, ↓g_enum, ↓g_nm, ↓g_tp, ↓g_gc, ↓g_gn, ↓g_isIntD_non, ↓g_isIntD_bl, ↓g_isIntD_int, ↓g_isIntD_str, ↓g_isIntD_tup, ↓g_isIntD_lst, ↓g_isBoolD_non, ↓g_isBoolD_bl, ↓g_isBoolD_int, ↓g_isBoolD_str, ↓g_isBoolD_tup, ↓g_isBoolD_lst, ↓g_isTupD_non, ↓g_isTupD_bl, ↓g_isTupD_int, ↓g_isTupD_str, ↓g_isTupD_tup, ↓g_isTupD_lst, ↓g_isStrD_non, ↓g_isStrD_bl, ↓g_isStrD_int, ↓g_isStrD_str, ↓g_isStrD_tup, ↓g_isStrD_lst, ↓g_own_non, ↓g_own_bl, ↓g_own_int, ↓g_own_str, ↓g_own_tup, ↓g_own_lst, ↓g_own_ins, ↓g_eqi, ↓g_eqs, ↓g_nei, ↓g_nes, ↓p_bnd, ↓p_ret, ↓p_none, ↓p_fr, ↓p_and, ↓p_or, ↓p_not, ↓p_ifE, ↓p_bl, ↓p_nil, ↓p_cons, ↓p_tup, ↓p_lst, ↓p_drop, ↓p_rt, ↓p_mif, ↓p_for, ↓p_gNil, ↓p_gV, ↓p_gApp, ↓p_rV, ↓p_if, cs_un, cs_fr, List.length_cons, List.length_nil, List.length_map, Nat.zero_add, insD_i, decide_eq_true_eq, Bool.not_eq_true', Bool.not_true, Bool.not_false, decide_eq_false_iff_not, true_and, and_true, ne_eq, not_false_eq_true, List.lookup_cons, Nat.reduceAdd, isN_non, isN_bl, isN_int, isN_str, isN_tup, isN_lst, ↓reduceIte]
        refine pick_spec p3 (by omega) (by omega) (by omega) fun d3 l4 c1 c2 p4 => ?_
        simp (decide := true) only [↓k_some, ↓k_no, ↓k_ite, ↓getK_0, ↓getK_s, ↓setK_0, ↓setK_s, ↓ff_0, ↓ff_s, ↓ff_o, ↓fo_l, ↓fo_i, ↓fk_fr, ↓fk_ow, ↓vk_fr, ↓vk_ow, ↓vw_fr, ↓vw_l, ↓mv_fr, ↓mv_ow, ↓sq_nx, ↓sq_bk, ↓sq_ct, ↓sq_rt, ↓fi_rt, ↓fi_nx, ↓ou_0, ↓ou_fr, ↓ou_ow, ↓ou_un, ↓ou_of, ↓ou_on, ↓un_00, ↓un_0s, ↓un_s, ↓rk_fr, ↓rk_un, ↓rk_ow, ↓ak_l, ↓lk_l, ↓si_l, ↓ls_0, ↓ls_s, ↓gb_fr, ↓gb_ow, ↓rb_fr, ↓rb_ow, ↓to_0, ↓to_v, ↓to_b, ↓to_map, ↓to_mapn, ↓tb_fr, ↓tb_ow, ↓bk_0, ↓bk_v, ↓bk_bi, ↓ba_0, ↓ba_s, ↓bk_mapf, ↓bk_mapn, ↓bb_fr, ↓bb_ow, ↓ui_un, ↓set_tag, ↓set_tagf, ↓df_0, ↓sp_0, ↓sp_n, ↓sp_s, ↓fs_0, ↓fs_s, ↓fs_map, ↓ct_0, ↓ct_fr, ↓ct_un, ↓ct_ow, ↓ap_00, ↓ap_0s, ↓ap_s, ↓as_0, ↓as_s, ↓in_v, ↓in_b, ↓ib_fr, ↓ib_ow, ↓fl_v, ↓fr_fd, ↓fl_b, ↓fb_fr, ↓fb_ow, ↓get_look, ↓ln_i, ↓sf_fr, ↓sf_ow, ↓mk_r, ↓w_var, ↓w_view, ↓w_lift, ↓w_frz, ↓w_m1, ↓w_m2, ↓w_mV2, ↓w_m2V, ↓w_tst, ↓w_isN, ↓w_notN, ↓bv_bl, ↓w_andV, ↓w_orV, ↓nv_bl, ↓w_notV, ↓w_ch, ↓pt_i, ↓w_part, ↓w_sl, ↓w_slV, ↓w_cal, ↓w_lenV, ↓w_is, ↓w_isO, ↓w_put, ↓w_set, ↓w_move, ↓w_seq, ↓w_asg, ↓w_app, ↓w_setI, ↓w_items, ↓w_gB, ↓w_rB, ↓w_cl, ↓w_callA, ↓w_gStar, ↓w_fld, ↓get_d1, ↓w_mth, ↓w_mthS, ↓w_prp, ↓w_lenO, ↓w_own2, ↓w_ownB, ↓w_augO, ↓w_setF, ↓w_fn, ↓w_mk, ↓w_arg, ↓w_any, ↓w_kw, ↓selR, ↓selA, ↓sQ_0, ↓sQ_s, ↓st_nx, ↓st_ct, ↓st_bk, ↓st_rt, ↓w_lc, ↓g_ixt, ↓g_ixl, ↓g_ixs, ↓at_0, ↓at_1, ↓at_2, ↓at_3, ↓ix_0, ↓ix_1, ↓ix_2, ↓g_addi, ↓g_adds, ↓g_addt, ↓g_addl, ↓g_muli, ↓g_mult, ↓g_mull, ↓g_sub, ↓g_div, ↓g_mod, ↓g_pow, ↓g_bD, ↓g_lt, ↓g_le, ↓g_gt, ↓g_ge, ↓g_neg, ↓g_bl, ↓g_int, ↓g_lent, ↓g_lenl, ↓g_lens, ↓g_list, ↓g_lisl, ↓g_tupt, ↓g_tupl, ↓g_max, ↓g_min, ↓g_itt, ↓g_itl, ↓g_its, ↓g_slt, ↓g_sll, ↓g_sls, ↓g_rng1, ↓g_rng2, ↓g_enum, ↓g_nm, ↓g_tp, ↓g_gc, ↓g_gn, ↓g_isIntD_non, ↓g_isIntD_bl, ↓g_isIntD_int, ↓g_isIntD_str, ↓g_isIntD_tup, ↓g_isIntD_lst, ↓g_isBoolD_non, ↓g_isBoolD_bl, ↓g_isBoolD_int, ↓g_isBoolD_str, ↓g_isBoolD_tup, ↓g_isBoolD_lst, ↓g_isTupD_non, ↓g_isTupD_bl, ↓g_isTupD_int, ↓g_isTupD_str, ↓g_isTupD_tup, ↓g_isTupD_lst, ↓g_isStrD_non, ↓g_isStrD_bl, ↓g_isStrD_int, ↓g_isStrD_str, ↓g_isStrD_tup, ↓g_isStrD_lst, ↓g_own_non, ↓g_own_bl, ↓g_own_int, ↓g_own_str, ↓g_own_tup, ↓g_own_lst, ↓g_own_ins, ↓g_eqi, ↓g_eqs, ↓g_nei, ↓g_nes, ↓p_bnd, ↓p_ret, ↓p_none, ↓p_fr, ↓p_and, ↓p_or, ↓p_not, ↓p_ifE, ↓p_bl, ↓p_nil, ↓p_cons, ↓p_tup, ↓p_lst, ↓p_drop, ↓p_rt, ↓p_mif, ↓p_for, ↓p_gNil, ↓p_gV, ↓p_gApp, ↓p_rV, ↓p_if, cs_un, cs_fr, List.length_cons, List.length_nil, List.length_map, Nat.zero_add, insD_i, decide_eq_true_eq, Bool.not_eq_true', Bool.not_true, Bool.not_false, decide_eq_false_iff_not, true_and, and_true, ne_eq, not_false_eq_true, List.lookup_cons, Nat.reduceAdd, isN_non, isN_bl, isN_int, isN_str, isN_tup, isN_lst, ↓reduceIte]
        split
        · refine ⟨l4, ms ++ [0 + (k : Int)], by simp, by simp; omega, fun m hm' => ?_, ?_, p4.mono (by simp; omega), rfl⟩
          · rcases List.mem_append.mp hm' with q | q
            · have := hm m q; omega
            · rw [List.mem_singleton.mp q]; omega
          · refine List.pairwise_append.mpr ⟨hp', List.pairwise_singleton _ _, fun x hx y hy => ?_⟩
            rw [List.mem_singleton.mp hy]
            have := hm x hx
            omega
        · exact ⟨l4, ms, rfl, by omega, fun m hm' => by have := hm m hm'; omega, hp', p4.mono (by simp; omega), rfl⟩
      · obtain ⟨l3, ms, rfl, hl, hm, hp', p3, rfl⟩ := hI
        rw [rngD_len] at hl hm p3
        have spots : Spots s ms := ⟨fun m hm' => by have := hm m hm'; omega, hp'⟩
        simp (decide := true) only [↓k_some, ↓k_no, ↓k_ite, ↓getK_0, ↓getK_s, ↓setK_0, ↓setK_s, ↓ff_0, ↓ff_s, ↓ff_o, ↓fo_l, ↓fo_i, ↓fk_fr, ↓fk_ow, ↓vk_fr, ↓vk_ow, ↓vw_fr, ↓vw_l, ↓mv_fr, ↓mv_ow, ↓sq_nx, ↓sq_bk, ↓sq_ct, ↓sq_rt, ↓fi_rt, ↓fi_nx, ↓ou_0, ↓ou_fr, ↓ou_ow, ↓ou_un, ↓ou_of, ↓ou_on, ↓un_00, ↓un_0s, ↓un_s, ↓rk_fr, ↓rk_un, ↓rk_ow, ↓ak_l, ↓lk_l, ↓si_l, ↓ls_0, ↓ls_s, ↓gb_fr, ↓gb_ow, ↓rb_fr, ↓rb_ow, ↓to_0, ↓to_v, ↓to_b, ↓to_map, ↓to_mapn, ↓tb_fr, ↓tb_ow, ↓bk_0, ↓bk_v, ↓bk_bi, ↓ba_0, ↓ba_s, ↓bk_mapf, ↓bk_mapn, ↓bb_fr, ↓bb_ow, ↓ui_un, ↓set_tag, ↓set_tagf, ↓df_0, ↓sp_0, ↓sp_n, ↓sp_s, ↓fs_0, ↓fs_s, ↓fs_map, ↓ct_0, ↓ct_fr, ↓ct_un, ↓ct_ow, ↓ap_00, ↓ap_0s, ↓ap_s, ↓as_0, ↓as_s, ↓in_v, ↓in_b, ↓ib_fr, ↓ib_ow, ↓fl_v, ↓fr_fd, ↓fl_b, ↓fb_fr, ↓fb_ow, ↓get_look, ↓ln_i, ↓sf_fr, ↓sf_ow, ↓mk_r, ↓w_var, ↓w_view, ↓w_lift, ↓w_frz, ↓w_m1, ↓w_m2, ↓w_mV2, ↓w_m2V, ↓w_tst, ↓w_isN, ↓w_notN, ↓bv_bl, ↓w_andV, ↓w_orV, ↓nv_bl, ↓w_notV, ↓w_ch, ↓pt_i, ↓w_part, ↓w_sl, ↓w_slV, ↓w_cal, ↓w_lenV, ↓w_is, ↓w_isO, ↓w_put, ↓w_set, ↓w_move, ↓w_seq, ↓w_asg, ↓w_app, ↓w_setI, ↓w_items, ↓w_gB, ↓w_rB, ↓w_cl, ↓w_callA, ↓w_gStar, ↓w_fld, ↓get_d1, ↓w_mth, ↓w_mthS, ↓w_prp, ↓w_lenO, ↓w_own2, ↓w_ownB, ↓w_augO, ↓w_setF, ↓w_fn, ↓w_mk, ↓w_arg, ↓w_any, ↓w_kw, ↓selR, ↓selA, ↓sQ_0, ↓sQ_s, ↓st_nx, ↓st_ct, ↓st_bk, ↓st_rt, ↓w_lc, ↓g_ixt, ↓g_ixl, ↓g_ixs, ↓at_0, ↓at_1, ↓at_2, ↓at_3, ↓ix_0, ↓ix_1, ↓ix_2, ↓g_addi, ↓g_adds, ↓g_addt, ↓g_addl, ↓g_muli, ↓g_mult, ↓g_mull, ↓g_sub, ↓g_div, ↓g_mod, ↓g_pow, ↓g_bD, ↓g_lt, ↓g_le, ↓g_gt, ↓g_ge, ↓g_neg, ↓g_bl, ↓g_int, ↓g_lent, ↓g_lenl, ↓g_lens, ↓g_list, ↓g_lisl, ↓g_tupt, ↓g_tupl, ↓g_max, ↓g_min, ↓g_itt, ↓g_itl, ↓g_its, ↓g_slt, ↓g_sll, ↓g_sls, ↓g_rng1, ↓g_rng2, ↓g_enum, ↓g_nm, ↓g_tp, ↓g_gc, ↓g_gn, ↓g_isIntD_non, ↓g_isIntD_bl, ↓g_isIntD_int, ↓g_isIntD_str, ↓g_isIntD_tup, ↓g_isIntD_lst, ↓g_isBoolD_non, ↓g_isBoolD_bl, ↓g_isBoolD_int, ↓g_isBoolD_str, ↓g_isBoolD_tup, ↓g_isBoolD_lst, ↓g_isTupD_non, ↓g_isTupD_bl, ↓g_isTupD_int, ↓g_isTupD_str, ↓g_isTupD_tup, ↓g_isTupD_lst, ↓g_isStrD_non, ↓g_isStrD_bl, ↓g_isStrD_int, ↓g_isStrD_str, ↓g_isStrD_tup, ↓g_isStrD_lst, ↓g_own_non, ↓g_own_bl, ↓g_own_int, ↓g_own_str, ↓g_own_tup, ↓g_own_lst, ↓g_own_ins, ↓g_eqi, ↓g_eqs, ↓g_nei, ↓g_nes, ↓p_bnd, ↓p_ret, ↓p_none, ↓p_fr, ↓p_and, ↓p_or, ↓p_not, ↓p_ifE, ↓p_bl, ↓p_nil, ↓p_cons, ↓p_tup, ↓p_lst, ↓p_drop, ↓p_rt, ↓p_mif, ↓p_for, ↓p_gNil, ↓p_gV, ↓p_gApp, ↓p_rV, ↓p_if, cs_un, cs_fr, List.length_cons, List.length_nil, List.length_map, Nat.zero_add, insD_i, decide_eq_true_eq, Bool.not_eq_true', Bool.not_true, Bool.not_false, decide_eq_false_iff_not, true_and, and_true, ne_eq, not_false_eq_true, List.lookup_cons, Nat.reduceAdd, isN_non, isN_bl, isN_int, isN_str, isN_tup, isN_lst, ↓reduceIte]
        refine ⟨⟨sw, by decide +kernel⟩, ?_⟩
        split
        · rename_i e
          subst e
          refine ⟨Nat.le_trans (by omega : ms.length ≤ 100) (by decide), ?_⟩
          refine LcK.inv (fun k acc a => ∃ (l3 : List D) (ps : List (Int × Int)), acc = ps.map pairD ∧ ps.map (·.1) = ms.take k ∧ (∀ p ∈ ps, 0 ≤ p.2 ∧ p.2 < s) ∧ Pot (n + 20 + k) l3 ∧ a = [.ow (some 0) (.lst l3), .fr (.int s), .fr (.int up), .fr (.str "swap"), .fr (.int o), .fr (.lst (ms.map .int)), .un]) ⟨l3, [], rfl, by simp, fun p hp => (nomatch hp), p3.mono (by simp; omega), rfl⟩ (fun k d acc a hd hI => ?_) (fun acc a' hI => ?_)
          · obtain ⟨l5, ps, rfl, hf, hs', p5, rfl⟩ := hI
            rw [List.getElem?_map] at hd
            obtain ⟨m, em, rfl⟩ := Option.map_eq_some_iff.mp hd
            have kl := (List.getElem?_eq_some_iff.mp em).1
            simp (decide := true) only [↓k_some, ↓k_no, ↓k_ite, ↓getK_0, ↓getK_s, ↓setK_0, ↓setK_s, ↓ff_0, ↓ff_s, ↓ff_o, ↓fo_l, ↓fo_i, ↓fk_fr, ↓fk_ow, ↓vk_fr, ↓vk_ow, ↓vw_fr, ↓vw_l, ↓mv_fr, ↓mv_ow, ↓sq_nx, ↓sq_bk, ↓sq_ct, ↓sq_rt, ↓fi_rt, ↓fi_nx, ↓ou_0, ↓ou_fr, ↓ou_ow, ↓ou_un, ↓ou_of, ↓ou_on, ↓un_00, ↓un_0s, ↓un_s, ↓rk_fr, ↓rk_un, ↓rk_ow, ↓ak_l, ↓lk_l, ↓si_l, ↓ls_0, ↓ls_s, ↓gb_fr, ↓gb_ow, ↓rb_fr, ↓rb_ow, ↓to_0, ↓to_v, ↓to_b, ↓to_map, ↓to_mapn, ↓tb_fr, ↓tb_ow, ↓bk_0, ↓bk_v, ↓bk_bi, ↓ba_0, ↓ba_s, ↓bk_mapf, ↓bk_mapn, ↓bb_fr, ↓bb_ow, ↓ui_un, ↓set_tag, ↓set_tagf, ↓df_0, ↓sp_0, ↓sp_n, ↓sp_s, ↓fs_0, ↓fs_s, ↓fs_map, ↓ct_0, ↓ct_fr, ↓ct_un, ↓ct_ow, ↓ap_00, ↓ap_0s, ↓ap_s, ↓as_0, ↓as_s, ↓in_v, ↓in_b, ↓ib_fr, ↓ib_ow, ↓fl_v, ↓fr_fd, ↓fl_b, ↓fb_fr, ↓fb_ow, ↓get_look, ↓ln_i, ↓sf_fr, ↓sf_ow, ↓mk_r, ↓w_var, ↓w_view, ↓w_lift, ↓w_frz, ↓w_m1, ↓w_m2, ↓w_mV2, ↓w_m2V, ↓w_tst, ↓w_isN, ↓w_notN, ↓bv_bl, ↓w_andV, ↓w_orV, ↓nv_bl, ↓w_notV, ↓w_ch, ↓pt_i, ↓w_part, ↓w_sl, ↓w_slV, ↓w_cal, ↓w_lenV, ↓w_is, ↓w_isO, ↓w_put, ↓w_set, ↓w_move, ↓w_seq, ↓w_asg, ↓w_app, ↓w_setI, ↓w_items, ↓w_gB, ↓w_rB, ↓w_cl, ↓w_callA, ↓w_gStar, ↓w_fld, ↓get_d1, ↓w_mth, ↓w_mthS, ↓w_prp, ↓w_lenO, ↓w_own2, ↓w_ownB, ↓w_augO, ↓w_setF, ↓w_fn, ↓w_mk, ↓w_arg, ↓w_any, ↓w_kw, ↓selR, ↓selA, ↓sQ_0, ↓sQ_s, ↓st_nx, ↓st_ct, ↓st_bk, ↓st_rt, ↓w_lc, ↓g_ixt, ↓g_ixl, ↓g_ixs, ↓at_0, ↓at_1, ↓at_2, ↓at_3, ↓ix_0, ↓ix_1, ↓ix_2, ↓g_addi, ↓g_adds, ↓g_addt, ↓g_addl, ↓g_muli, ↓g_mult, ↓g_mull, ↓g_sub, ↓g_div, ↓g_mod, ↓g_pow, ↓g_bD, ↓g_lt, ↓g_le, ↓g_gt, ↓g_ge, ↓g_neg, ↓g_bl, ↓g_int, ↓g_lent, ↓g_lenl, ↓g_lens, ↓g_list, ↓g_lisl, ↓g_tupt, ↓g_tupl, ↓g_max, ↓g_min, ↓g_itt, ↓g_itl, ↓g_its, ↓g_slt, ↓g_sll, ↓g_sls, ↓g_rng1, ↓g_rng2, ↓g_enum, ↓g_nm, ↓g_tp, ↓g_gc, ↓g_gn, ↓g_isIntD_non, ↓g_isIntD_bl, ↓g_isIntD_int, ↓g_isIntD_str, ↓g_isIntD_tup, ↓g_isIntD_lst, ↓g_isBoolD_non, ↓g_isBoolD_bl, ↓g_isBoolD_int, ↓g_isBoolD_str, ↓g_isBoolD_tup, ↓g_isBoolD_lst, ↓g_isTupD_non, ↓g_isTupD_bl, ↓g_isTupD_int, ↓g_isTupD_str, ↓g_isTupD_tup, ↓g_isTupD_lst, ↓g_isStrD_non, ↓g_isStrD_bl, ↓g_isStrD_int, ↓g_isStrD_str, ↓g_isStrD_tup, ↓g_isStrD_lst, ↓g_own_non, ↓g_own_bl, ↓g_own_int, ↓g_own_str, ↓g_own_tup, ↓g_own_lst, ↓g_own_ins, ↓g_eqi, ↓g_eqs, ↓g_nei, ↓g_nes, ↓p_bnd, ↓p_ret, ↓p_none, ↓p_fr, ↓p_and, ↓p_or, ↓p_not, ↓p_ifE, ↓p_bl, ↓p_nil, ↓p_cons, ↓p_tup, ↓p_lst, ↓p_drop, ↓p_rt, ↓p_mif, ↓p_for, ↓p_gNil, ↓p_gV, ↓p_gApp, ↓p_rV, ↓p_if, cs_un, cs_fr, List.length_cons, List.length_nil, List.length_map, Nat.zero_add, insD_i, decide_eq_true_eq, Bool.not_eq_true', Bool.not_true, Bool.not_false, decide_eq_false_iff_not, true_and, and_true, ne_eq, not_false_eq_true, List.lookup_cons, Nat.reduceAdd, isN_non, isN_bl, isN_int, isN_str, isN_tup, isN_lst, ↓reduceIte]
            refine pick_spec p5 (by omega) (by omega) (by omega) fun d3 l4 c1 c2 p4 => ?_
            simp (decide := true) only [↓k_some, ↓k_no, ↓k_ite, ↓getK_0, ↓getK_s, ↓setK_0, ↓setK_s, ↓ff_0, ↓ff_s, ↓ff_o, ↓fo_l, ↓fo_i, ↓fk_fr, ↓fk_ow, ↓vk_fr, ↓vk_ow, ↓vw_fr, ↓vw_l, ↓mv_fr, ↓mv_ow, ↓sq_nx, ↓sq_bk, ↓sq_ct, ↓sq_rt, ↓fi_rt, ↓fi_nx, ↓ou_0, ↓ou_fr, ↓ou_ow, ↓ou_un, ↓ou_of, ↓ou_on, ↓un_00, ↓un_0s, ↓un_s, ↓rk_fr, ↓rk_un, ↓rk_ow, ↓ak_l, ↓lk_l, ↓si_l, ↓ls_0, ↓ls_s, ↓gb_fr, ↓gb_ow, ↓rb_fr, ↓rb_ow, ↓to_0, ↓to_v, ↓to_b, ↓to_map, ↓to_mapn, ↓tb_fr, ↓tb_ow, ↓bk_0, ↓bk_v, ↓bk_bi, ↓ba_0, ↓ba_s, ↓bk_mapf, ↓bk_mapn, ↓bb_fr, ↓bb_ow, ↓ui_un, ↓set_tag, ↓set_tagf, ↓df_0, ↓sp_0, ↓sp_n, ↓sp_s, ↓fs_0, ↓fs_s, ↓fs_map, ↓ct_0, ↓ct_fr, ↓ct_un, ↓ct_ow, ↓ap_00, ↓ap_0s, ↓ap_s, ↓as_0, ↓as_s, ↓in_v, ↓in_b, ↓ib_fr, ↓ib_ow, ↓fl_v, ↓fr_fd, ↓fl_b, ↓fb_fr, ↓fb_ow, ↓get_look, ↓ln_i, ↓sf_fr, ↓sf_ow, ↓mk_r, ↓w_var, ↓w_view, ↓w_lift, ↓w_frz, ↓w_m1, ↓w_m2, ↓w_mV2, ↓w_m2V, ↓w_tst, ↓w_isN, ↓w_notN, ↓bv_bl, ↓w_andV, ↓w_orV, ↓nv_bl, ↓w_notV, ↓w_ch, ↓pt_i, ↓w_part, ↓w_sl, ↓w_slV, ↓w_cal, ↓w_lenV, ↓w_is, ↓w_isO, ↓w_put, ↓w_set, ↓w_move, ↓w_seq, ↓w_asg, ↓w_app, ↓w_setI, ↓w_items, ↓w_gB, ↓w_rB, ↓w_cl, ↓w_callA, ↓w_gStar, ↓w_fld, ↓get_d1, ↓w_mth, ↓w_mthS, ↓w_prp, ↓w_lenO, ↓w_own2, ↓w_ownB, ↓w_augO, ↓w_setF, ↓w_fn, ↓w_mk, ↓w_arg, ↓w_any, ↓w_kw, ↓selR, ↓selA, ↓sQ_0, ↓sQ_s, ↓st_nx, ↓st_ct, ↓st_bk, ↓st_rt, ↓w_lc, ↓g_ixt, ↓g_ixl, ↓g_ixs, ↓at_0, ↓at_1, ↓at_2, ↓at_3, ↓ix_0, ↓ix_1, ↓ix_2, ↓g_addi, ↓g_adds, ↓g_addt, ↓g_addl, ↓g_muli, ↓g_mult, ↓g_mull, ↓g_sub, ↓g_div, ↓g_mod, ↓g_pow, ↓g_bD, ↓g_lt, ↓g_le, ↓g_gt, ↓g_ge, ↓g_neg, ↓g_bl, ↓g_int, ↓g_lent, ↓g_lenl, ↓g_lens, ↓g_list, ↓g_lisl, ↓g_tupt, ↓g_tupl, ↓g_max, ↓g_min, ↓g_itt, ↓g_itl, ↓g_its, ↓g_slt, ↓g_sll, ↓g_sls, ↓g_rng1, ↓g_rng2, ↓g_enum, ↓g_nm, ↓g_tp, ↓g_gc, ↓g_gn, ↓g_isIntD_non, ↓g_isIntD_bl, ↓g_isIntD_int, ↓g_isIntD_str, ↓g_isIntD_tup, ↓g_isIntD_lst, ↓g_isBoolD_non, ↓g_isBoolD_bl, ↓g_isBoolD_int, ↓g_isBoolD_str, ↓g_isBoolD_tup, ↓g_isBoolD_lst, ↓g_isTupD_non, ↓g_isTupD_bl, ↓g_isTupD_int, ↓g_isTupD_str, ↓g_isTupD_tup, ↓g_isTupD_lst, ↓g_isStrD_non, ↓g_isStrD_bl, ↓g_isStrD_int, ↓g_isStrD_str, ↓g_isStrD_tup, ↓g_isStrD_lst, ↓g_own_non, ↓g_own_bl, ↓g_own_int, ↓g_own_str, ↓g_own_tup, ↓g_own_lst, ↓g_own_ins, ↓g_eqi, ↓g_eqs, ↓g_nei, ↓g_nes, ↓p_bnd, ↓p_ret, ↓p_none, ↓p_fr, ↓p_and, ↓p_or, ↓p_not, ↓p_ifE, ↓p_bl, ↓p_nil, ↓p_cons, ↓p_tup, ↓p_lst, ↓p_drop, ↓p_rt, ↓p_mif, ↓p_for, ↓p_gNil, ↓p_gV, ↓p_gApp, ↓p_rV, ↓p_if, cs_un, cs_fr, List.length_cons, List.length_nil, List.length_map, Nat.zero_add, insD_i, decide_eq_true_eq, Bool.not_eq_true', Bool.not_true, Bool.not_false, decide_eq_false_iff_not, true_and, and_true, ne_eq, not_false_eq_true, List.lookup_cons, Nat.reduceAdd, isN_non, isN_bl, isN_int, isN_str, isN_tup, isN_lst, ↓reduceIte]
            refine ⟨l4, ps ++ [(m, d3)], by simp [pairD], ?_, fun p hp => ?_, p4.mono (by simp; omega), rfl⟩
            · rw [List.map_append, hf, List.take_add_one, em]; rfl
            · rcases List.mem_append.mp hp with q | q
              · exact hs' p q
              · rw [List.mem_singleton.mp q]; exact ⟨c1, c2⟩
          · obtain ⟨l5, ps, rfl, hf, hs', p5, rfl⟩ := hI
            rw [List.length_map] at hf p5
            rw [List.take_length] at hf
            have hpl : ps.length = ms.length := by rw [← hf, List.length_map]
            simp (decide := true) only [↓k_some, ↓k_no, ↓k_ite, ↓getK_0, ↓getK_s, ↓setK_0, ↓setK_s, ↓ff_0, ↓ff_s, ↓ff_o, ↓fo_l, ↓fo_i, ↓fk_fr, ↓fk_ow, ↓vk_fr, ↓vk_ow, ↓vw_fr, ↓vw_l, ↓mv_fr, ↓mv_ow, ↓sq_nx, ↓sq_bk, ↓sq_ct, ↓sq_rt, ↓fi_rt, ↓fi_nx, ↓ou_0, ↓ou_fr, ↓ou_ow, ↓ou_un, ↓ou_of, ↓ou_on, ↓un_00, ↓un_0s, ↓un_s, ↓rk_fr, ↓rk_un, ↓rk_ow, ↓ak_l, ↓lk_l, ↓si_l, ↓ls_0, ↓ls_s, ↓gb_fr, ↓gb_ow, ↓rb_fr, ↓rb_ow, ↓to_0, ↓to_v, ↓to_b, ↓to_map, ↓to_mapn, ↓tb_fr, ↓tb_ow, ↓bk_0, ↓bk_v, ↓bk_bi, ↓ba_0, ↓ba_s, ↓bk_mapf, ↓bk_mapn, ↓bb_fr, ↓bb_ow, ↓ui_un, ↓set_tag, ↓set_tagf, ↓df_0, ↓sp_0, ↓sp_n, ↓sp_s, ↓fs_0, ↓fs_s, ↓fs_map, ↓ct_0, ↓ct_fr, ↓ct_un, ↓ct_ow, ↓ap_00, ↓ap_0s, ↓ap_s, ↓as_0, ↓as_s, ↓in_v, ↓in_b, ↓ib_fr, ↓ib_ow, ↓fl_v, ↓fr_fd, ↓fl_b, ↓fb_fr, ↓fb_ow, ↓get_look, ↓ln_i, ↓sf_fr, ↓sf_ow, ↓mk_r, ↓w_var, ↓w_view, ↓w_lift, ↓w_frz, ↓w_m1, ↓w_m2, ↓w_mV2, ↓w_m2V, ↓w_tst, ↓w_isN, ↓w_notN, ↓bv_bl, ↓w_andV, ↓w_orV, ↓nv_bl, ↓w_notV, ↓w_ch, ↓pt_i, ↓w_part, ↓w_sl, ↓w_slV, ↓w_cal, ↓w_lenV, ↓w_is, ↓w_isO, ↓w_put, ↓w_set, ↓w_move, ↓w_seq, ↓w_asg, ↓w_app, ↓w_setI, ↓w_items, ↓w_gB, ↓w_rB, ↓w_cl, ↓w_callA, ↓w_gStar, ↓w_fld, ↓get_d1, ↓w_mth, ↓w_mthS, ↓w_prp, ↓w_lenO, ↓w_own2, ↓w_ownB, ↓w_augO, ↓w_setF, ↓w_fn, ↓w_mk, ↓w_arg, ↓w_any, ↓w_kw, ↓selR, ↓selA, ↓sQ_0, ↓sQ_s, ↓st_nx, ↓st_ct, ↓st_bk, ↓st_rt, ↓w_lc, ↓g_ixt, ↓g_ixl, ↓g_ixs, ↓at_0, ↓at_1, ↓at_2, ↓at_3, ↓ix_0, ↓ix_1, ↓ix_2, ↓g_addi, ↓g_adds, ↓g_addt, ↓g_addl, ↓g_muli, ↓g_mult, ↓g_mull, ↓g_sub, ↓g_div, ↓g_mod, ↓g_pow, ↓g_bD, ↓g_lt, ↓g_le, ↓g_gt, ↓g_ge, ↓g_neg, ↓g_bl, ↓g_int, ↓g_lent, ↓g_lenl, ↓g_lens, ↓g_list, ↓g_lisl, ↓g_tupt, ↓g_tupl, ↓g_max, ↓g_min, ↓g_itt, ↓g_itl, ↓g_its, ↓g_slt, ↓g_sll, ↓g_sls, ↓g_rng1, ↓g_rng2, ↓g_enum, ↓g_nm, ↓g_tp, ↓g_gc, ↓g_gn, ↓g_isIntD_non, ↓g_isIntD_bl, ↓g_isIntD_int, ↓g_isIntD_str, ↓g_isIntD_tup, ↓g_isIntD_lst, ↓g_isBoolD_non, ↓g_isBoolD_bl, ↓g_isBoolD_int, ↓g_isBoolD_str, ↓g_isBoolD_tup, ↓g_isBoolD_lst, ↓g_isTupD_non, ↓g_isTupD_bl, ↓g_isTupD_int, ↓g_isTupD_str, ↓g_isTupD_tup, ↓g_isTupD_lst, ↓g_isStrD_non, ↓g_isStrD_bl, ↓g_isStrD_int, ↓g_isStrD_str, ↓g_isStrD_tup, ↓g_isStrD_lst, ↓g_own_non, ↓g_own_bl, ↓g_own_int, ↓g_own_str, ↓g_own_tup, ↓g_own_lst, ↓g_own_ins, ↓g_eqi, ↓g_eqs, ↓g_nei, ↓g_nes, ↓p_bnd, ↓p_ret, ↓p_none, ↓p_fr, ↓p_and, ↓p_or, ↓p_not, ↓p_ifE, ↓p_bl, ↓p_nil, ↓p_cons, ↓p_tup, ↓p_lst, ↓p_drop, ↓p_rt, ↓p_mif, ↓p_for, ↓p_gNil, ↓p_gV, ↓p_gApp, ↓p_rV, ↓p_if, cs_un, cs_fr, List.length_cons, List.length_nil, List.length_map, Nat.zero_add, insD_i, decide_eq_true_eq, Bool.not_eq_true', Bool.not_true, Bool.not_false, decide_eq_false_iff_not, true_and, and_true, ne_eq, not_false_eq_true, List.lookup_cons, Nat.reduceAdd, isN_non, isN_bl, isN_int, isN_str, isN_tup, isN_lst, ↓reduceIte]
            refine h _ _ (.swap ps ⟨fun p hp => ⟨spots.1 p.1 ?_, hs' p hp⟩, by rw [hf]; exact hp'⟩ (by omega)) (p5.mono (by omega))
            rw [← hf]
            exact List.mem_map_of_mem hp
        · rename_i n3
          have : w = "only" ∨ w = "lift" := by
            rcases hw with e | e | e | e | e
            · exact absurd e n1
            · exact absurd e n2
            · exact .inl e
            · exact .inr e
            · exact absurd e n3
          rcases this with e | e <;> subst e
          · exact h _ _ (.only ms spots (by omega)) (p3.mono (by omega))
          · exact h _ _ (.lift ms spots (by omega)) (p3.mono (by omega))
def RowI (n s up mu : Int) (k : Nat) (acc : List D) (a : AS) : Prop := ∃ (l : List D), (∀ d ∈ acc, Gate s d) ∧ acc.length = k ∧ Pot (n + 100 * k) l ∧ a = [.ow (some 0) (.lst l), .fr (.int s), .fr (.int up), .fr (.int mu), .un]
theorem row_spec {l : List D} {n s up mu : Int} {Q : Sl → List Sl → Prop} (hp : Pot n l) (hn : n ≤ 700000000000) (hs : 0 < s) (hs2 : s ≤ 10) (hu : 0 ≤ up) (hu2 : up ≤ 40) (hm : 0 ≤ mu) (hm2 : mu ≤ 10)
    (h : ∀ ds l', (∀ d ∈ ds, Gate s d) → (ds.length : Int) ≤ mu → Pot (n + 1500) l' → Q (.fr (.tup ds)) [.ow (some 0) (.lst l'), .fr (.int s), .fr (.int up), .fr (.int mu)]) : PostF (f_l_drawn_row Z) [.ow (some 0) (.lst l), .fr (.int s), .fr (.int up), .fr (.int mu)] Q := by
  unfold f_l_drawn_row b_l_drawn_row
  simp (decide := true) only [↓k_some, ↓k_no, ↓k_ite, ↓getK_0, ↓getK_s, ↓setK_0, ↓setK_s, ↓ff_0, ↓ff_s, ↓ff_o, ↓fo_l, ↓fo_i, ↓fk_fr, ↓fk_ow, ↓vk_fr, ↓vk_ow, ↓vw_fr, ↓vw_l, ↓mv_fr, ↓mv_ow, ↓sq_nx, ↓sq_bk, ↓sq_ct, ↓sq_rt, ↓fi_rt, ↓fi_nx, ↓ou_0, ↓ou_fr, ↓ou_ow, ↓ou_un, ↓ou_of, ↓ou_on, ↓un_00, ↓un_0s, ↓un_s, ↓rk_fr, ↓rk_un, ↓rk_ow, ↓ak_l, ↓lk_l, ↓si_l, ↓ls_0, ↓ls_s, ↓gb_fr, ↓gb_ow, ↓rb_fr, ↓rb_ow, ↓to_0, ↓to_v, ↓to_b, ↓to_map, ↓to_mapn, ↓tb_fr, ↓tb_ow, ↓bk_0, ↓bk_v, ↓bk_bi, ↓ba_0, ↓ba_s, ↓bk_mapf, ↓bk_mapn, ↓bb_fr, ↓bb_ow, ↓ui_un, ↓set_tag, ↓set_tagf, ↓df_0, ↓sp_0, ↓sp_n, ↓sp_s, ↓fs_0, ↓fs_s, ↓fs_map, ↓ct_0, ↓ct_fr, ↓ct_un, ↓ct_ow, ↓ap_00, ↓ap_0s, ↓ap_s, ↓as_0, ↓as_s, ↓in_v, ↓in_b, ↓ib_fr, ↓ib_ow, ↓fl_v, ↓fr_fd, ↓fl_b, ↓fb_fr, ↓fb_ow, ↓get_look, ↓ln_i, ↓sf_fr, ↓sf_ow, ↓mk_r, ↓w_var, ↓w_view, ↓w_lift, ↓w_frz, ↓w_m1, ↓w_m2, ↓w_mV2, ↓w_m2V, ↓w_tst, ↓w_isN, ↓w_notN, ↓bv_bl, ↓w_andV, ↓w_orV, ↓nv_bl, ↓w_notV, ↓w_ch, ↓pt_i, ↓w_part, ↓w_sl, ↓w_slV, ↓w_cal, ↓w_lenV, ↓w_is, ↓w_isO, ↓w_put, ↓w_set, ↓w_move, ↓w_seq, ↓w_asg, ↓w_app, ↓w_setI, ↓w_items, ↓w_gB, ↓w_rB, ↓w_cl, ↓w_callA, ↓w_gStar, ↓w_fld, ↓get_d1, ↓w_mth, ↓w_mthS, ↓w_prp, ↓w_lenO, ↓w_own2, ↓w_ownB, ↓w_augO, ↓w_setF, ↓w_fn, ↓w_mk, ↓w_arg, ↓w_any, ↓w_kw, ↓selR, ↓selA, ↓sQ_0, ↓sQ_s, ↓st_nx, ↓st_ct, ↓st_bk, ↓st_rt, ↓w_lc, ↓g_ixt, ↓g_ixl, ↓g_ixs, ↓at_0, ↓at_1, ↓at_2, ↓at_3, ↓ix_0, ↓ix_1, ↓ix_2, ↓g_addi, ↓g_adds, ↓g_addt, ↓g_addl, ↓g_muli, ↓g_mult, ↓g_mull, ↓g_sub, ↓g_div, ↓g_mod, ↓g_pow, ↓g_bD, ↓g_lt, ↓g_le, ↓g_gt, ↓g_ge, ↓g_neg, ↓g_bl, ↓g_int, ↓g_lent, ↓g_lenl, ↓g_lens, ↓g_list, ↓g_lisl, ↓g_tupt, ↓g_tupl, ↓g_max, ↓g_min, ↓g_itt, ↓g_itl, ↓g_its, ↓g_slt, ↓g_sll, ↓g_sls, ↓g_rng1, ↓g_rng2, ↓g_enum, ↓g_nm, ↓g_tp, ↓g_gc, ↓g_gn, ↓g_isIntD_non, ↓g_isIntD_bl, ↓g_isIntD_int, ↓g_isIntD_str, ↓g_isIntD_tup, ↓g_isIntD_lst, ↓g_isBoolD_non, ↓g_isBoolD_bl, ↓g_isBoolD_int, ↓g_isBoolD_str, ↓g_isBoolD_tup, ↓g_isBoolD_lst, ↓g_isTupD_non, ↓g_isTupD_bl, ↓g_isTupD_int, ↓g_isTupD_str, ↓g_isTupD_tup, ↓g_isTupD_lst, ↓g_isStrD_non, ↓g_isStrD_bl, ↓g_isStrD_int, ↓g_isStrD_str, ↓g_isStrD_tup, ↓g_isStrD_lst, ↓g_own_non, ↓g_own_bl, ↓g_own_int, ↓g_own_str, ↓g_own_tup, ↓g_own_lst, ↓g_own_ins, ↓g_eqi, ↓g_eqs, ↓g_nei, ↓g_nes, ↓p_bnd, ↓p_ret, ↓p_none, ↓p_fr, ↓p_and, ↓p_or, ↓p_not, ↓p_ifE, ↓p_bl, ↓p_nil, ↓p_cons, ↓p_tup, ↓p_lst, ↓p_drop, ↓p_rt, ↓p_mif, ↓p_for, ↓p_gNil, ↓p_gV, ↓p_gApp, ↓p_rV, ↓p_if, cs_un, cs_fr, List.length_cons, List.length_nil, List.length_map, Nat.zero_add, insD_i, decide_eq_true_eq, Bool.not_eq_true', Bool.not_true, Bool.not_false, decide_eq_false_iff_not, true_and, and_true, ne_eq, not_false_eq_true, List.lookup_cons, Nat.reduceAdd, isN_non, isN_bl, isN_int, isN_str, isN_tup, isN_lst, ↓reduceIte]
  refine pick_spec hp (by omega) (by omega) (by omega) fun d1 l1 a1 a2 p1 => ?_
  simp (decide := true) only [↓k_some, ↓k_no, ↓k_ite, ↓getK_0, ↓getK_s, ↓setK_0, ↓setK_s, ↓ff_0, ↓ff_s, ↓ff_o, ↓fo_l, ↓fo_i, ↓fk_fr, ↓fk_ow, ↓vk_fr, ↓vk_ow, ↓vw_fr, ↓vw_l, ↓mv_fr, ↓mv_ow, ↓sq_nx, ↓sq_bk, ↓sq_ct, ↓sq_rt, ↓fi_rt, ↓fi_nx, ↓ou_0, ↓ou_fr, ↓ou_ow, ↓ou_un, ↓ou_of, ↓ou_on, ↓un_00, ↓un_0s, ↓un_s, ↓rk_fr, ↓rk_un, ↓rk_ow, ↓ak_l, ↓lk_l, ↓si_l, ↓ls_0, ↓ls_s, ↓gb_fr, ↓gb_ow, ↓rb_fr, ↓rb_ow, ↓to_0, ↓to_v, ↓to_b, ↓to_map, ↓to_mapn, ↓tb_fr, ↓tb_ow, ↓bk_0, ↓bk_v, ↓bk_bi, ↓ba_0, ↓ba_s, ↓bk_mapf, ↓bk_mapn, ↓bb_fr, ↓bb_ow, ↓ui_un, ↓set_tag, ↓set_tagf, ↓df_0, ↓sp_0, ↓sp_n, ↓sp_s, ↓fs_0, ↓fs_s, ↓fs_map, ↓ct_0, ↓ct_fr, ↓ct_un, ↓ct_ow, ↓ap_00, ↓ap_0s, ↓ap_s, ↓as_0, ↓as_s, ↓in_v, ↓in_b, ↓ib_fr, ↓ib_ow, ↓fl_v, ↓fr_fd, ↓fl_b, ↓fb_fr, ↓fb_ow, ↓get_look, ↓ln_i, ↓sf_fr, ↓sf_ow, ↓mk_r, ↓w_var, ↓w_view, ↓w_lift, ↓w_frz, ↓w_m1, ↓w_m2, ↓w_mV2, ↓w_m2V, ↓w_tst, ↓w_isN, ↓w_notN, ↓bv_bl, ↓w_andV, ↓w_orV, ↓nv_bl, ↓w_notV, ↓w_ch, ↓pt_i, ↓w_part, ↓w_sl, ↓w_slV, ↓w_cal, ↓w_lenV, ↓w_is, ↓w_isO, ↓w_put, ↓w_set, ↓w_move, ↓w_seq, ↓w_asg, ↓w_app, ↓w_setI, ↓w_items, ↓w_gB, ↓w_rB, ↓w_cl, ↓w_callA, ↓w_gStar, ↓w_fld, ↓get_d1, ↓w_mth, ↓w_mthS, ↓w_prp, ↓w_lenO, ↓w_own2, ↓w_ownB, ↓w_augO, ↓w_setF, ↓w_fn, ↓w_mk, ↓w_arg, ↓w_any, ↓w_kw, ↓selR, ↓selA, ↓sQ_0, ↓sQ_s, ↓st_nx, ↓st_ct, ↓st_bk, ↓st_rt, ↓w_lc, ↓g_ixt, ↓g_ixl, ↓g_ixs, ↓at_0, ↓at_1, ↓at_2, ↓at_3, ↓ix_0, ↓ix_1, ↓ix_2, ↓g_addi, ↓g_adds, ↓g_addt, ↓g_addl, ↓g_muli, ↓g_mult, ↓g_mull, ↓g_sub, ↓g_div, ↓g_mod, ↓g_pow, ↓g_bD, ↓g_lt, ↓g_le, ↓g_gt, ↓g_ge, ↓g_neg, ↓g_bl, ↓g_int, ↓g_lent, ↓g_lenl, ↓g_lens, ↓g_list, ↓g_lisl, ↓g_tupt, ↓g_tupl, ↓g_max, ↓g_min, ↓g_itt, ↓g_itl, ↓g_its, ↓g_slt, ↓g_sll, ↓g_sls, ↓g_rng1, ↓g_rng2, ↓g_enum, ↓g_nm, ↓g_tp, ↓g_gc, ↓g_gn, ↓g_isIntD_non, ↓g_isIntD_bl, ↓g_isIntD_int, ↓g_isIntD_str, ↓g_isIntD_tup, ↓g_isIntD_lst, ↓g_isBoolD_non, ↓g_isBoolD_bl, ↓g_isBoolD_int, ↓g_isBoolD_str, ↓g_isBoolD_tup, ↓g_isBoolD_lst, ↓g_isTupD_non, ↓g_isTupD_bl, ↓g_isTupD_int, ↓g_isTupD_str, ↓g_isTupD_tup, ↓g_isTupD_lst, ↓g_isStrD_non, ↓g_isStrD_bl, ↓g_isStrD_int, ↓g_isStrD_str, ↓g_isStrD_tup, ↓g_isStrD_lst, ↓g_own_non, ↓g_own_bl, ↓g_own_int, ↓g_own_str, ↓g_own_tup, ↓g_own_lst, ↓g_own_ins, ↓g_eqi, ↓g_eqs, ↓g_nei, ↓g_nes, ↓p_bnd, ↓p_ret, ↓p_none, ↓p_fr, ↓p_and, ↓p_or, ↓p_not, ↓p_ifE, ↓p_bl, ↓p_nil, ↓p_cons, ↓p_tup, ↓p_lst, ↓p_drop, ↓p_rt, ↓p_mif, ↓p_for, ↓p_gNil, ↓p_gV, ↓p_gApp, ↓p_rV, ↓p_if, cs_un, cs_fr, List.length_cons, List.length_nil, List.length_map, Nat.zero_add, insD_i, decide_eq_true_eq, Bool.not_eq_true', Bool.not_true, Bool.not_false, decide_eq_false_iff_not, true_and, and_true, ne_eq, not_false_eq_true, List.lookup_cons, Nat.reduceAdd, isN_non, isN_bl, isN_int, isN_str, isN_tup, isN_lst, ↓reduceIte]
  refine ⟨⟨by omega, by omega⟩, by rw [rngD_len]; exact Nat.le_trans (by omega : d1.toNat ≤ 100) (by decide), ?_⟩
  refine LcK.inv (RowI (n + 1) s up mu) ⟨l1, fun d hd => (nomatch hd), rfl, p1.mono (by simp), rfl⟩ (fun k d acc a hd hI => ?_) (fun acc a' hI => ?_)
  · obtain ⟨l3, hg, hl, p3, rfl⟩ := hI
    obtain ⟨hk, rfl⟩ := rngD_at hd
    simp (decide := true) only [↓k_some, ↓k_no, ↓k_ite, ↓getK_0, ↓getK_s, ↓setK_0, ↓setK_s, ↓ff_0, ↓ff_s, ↓ff_o, ↓fo_l, ↓fo_i, ↓fk_fr, ↓fk_ow, ↓vk_fr, ↓vk_ow, ↓vw_fr, ↓vw_l, ↓mv_fr, ↓mv_ow, ↓sq_nx, ↓sq_bk, ↓sq_ct, ↓sq_rt, ↓fi_rt, ↓fi_nx, ↓ou_0, ↓ou_fr, ↓ou_ow, ↓ou_un, ↓ou_of, ↓ou_on, ↓un_00, ↓un_0s, ↓un_s, ↓rk_fr, ↓rk_un, ↓rk_ow, ↓ak_l, ↓lk_l, ↓si_l, ↓ls_0, ↓ls_s, ↓gb_fr, ↓gb_ow, ↓rb_fr, ↓rb_ow, ↓to_0, ↓to_v, ↓to_b, ↓to_map, ↓to_mapn, ↓tb_fr, ↓tb_ow, ↓bk_0, ↓bk_v, ↓bk_bi, ↓ba_0, ↓ba_s, ↓bk_mapf, ↓bk_mapn, ↓bb_fr, ↓bb_ow, ↓ui_un, ↓set_tag, ↓set_tagf, ↓df_0, ↓sp_0, ↓sp_n, ↓sp_s, ↓fs_0, ↓fs_s, ↓fs_map, ↓ct_0, ↓ct_fr, ↓ct_un, ↓ct_ow, ↓ap_00, ↓ap_0s, ↓ap_s, ↓as_0, ↓as_s, ↓in_v, ↓in_b, ↓ib_fr, ↓ib_ow, ↓fl_v, ↓fr_fd, ↓fl_b, ↓fb_fr, ↓fb_ow, ↓get_look, ↓ln_i, ↓sf_fr, ↓sf_ow, ↓mk_r, ↓w_var, ↓w_view, ↓w_lift, ↓w_frz, ↓w_m1, ↓w_m2, ↓w_mV2, ↓w_m2V, ↓w_tst, ↓w_isN, ↓w_notN, ↓bv_bl, ↓w_andV, ↓w_orV, ↓nv_bl, ↓w_notV, ↓w_ch, ↓pt_i, ↓w_part, ↓w_sl, ↓w_slV, ↓w_cal, ↓w_lenV, ↓w_is, ↓w_isO, ↓w_put, ↓w_set, ↓w_move, ↓w_seq, ↓w_asg, ↓w_app, ↓w_setI, ↓w_items, ↓w_gB, ↓w_rB, ↓w_cl, ↓w_callA, ↓w_gStar, ↓w_fld, ↓get_d1, ↓w_mth, ↓w_mthS, ↓w_prp, ↓w_lenO, ↓w_own2, ↓w_ownB, ↓w_augO, ↓w_setF, ↓w_fn, ↓w_mk, ↓w_arg, ↓w_any, ↓w_kw, ↓selR, ↓selA, ↓sQ_0, ↓sQ_s, ↓st_nx, ↓st_ct, ↓st_bk, ↓st_rt, ↓w_lc, ↓g_ixt, ↓g_ixl, ↓g_ixs, ↓at_0, ↓at_1, ↓at_2, ↓at_3, ↓ix_0, ↓ix_1, ↓ix_2, ↓g_addi, ↓g_adds, ↓g_addt, ↓g_addl, ↓g_muli, ↓g_mult, ↓g_mull, ↓g_sub, ↓g_div, ↓g_mod, ↓g_pow, ↓g_bD, ↓g_lt, ↓g_le, ↓g_gt, ↓g_ge, ↓g_neg, ↓g_bl, ↓g_int, ↓g_lent, ↓g_lenl, ↓g_lens, ↓g_list, ↓g_lisl, ↓g_tupt, ↓g_tupl, ↓g_max, ↓g_min, ↓g_itt, ↓g_itl, ↓g_its, ↓g_slt, ↓g_sll, ↓g_sls, ↓g_rng1, ↓g_rng2, ↓g_enum, ↓g_nm, ↓g_tp, ↓g_gc, ↓g_gn, ↓g_isIntD_non, ↓g_isIntD_bl, ↓g_isIntD_int, ↓g_isIntD_str, ↓g_isIntD_tup, ↓g_isIntD_lst, ↓g_isBoolD_non, ↓g_isBoolD_bl, ↓g_isBoolD_int, ↓g_isBoolD_str, ↓g_isBoolD_tup, ↓g_isBoolD_lst, ↓g_isTupD_non, ↓g_isTupD_bl, ↓g_isTupD_int, ↓g_isTupD_str, ↓g_isTupD_tup, ↓g_isTupD_lst, ↓g_isStrD_non, ↓g_isStrD_bl, ↓g_isStrD_int, ↓g_isStrD_str, ↓g_isStrD_tup, ↓g_isStrD_lst, ↓g_own_non, ↓g_own_bl, ↓g_own_int, ↓g_own_str, ↓g_own_tup, ↓g_own_lst, ↓g_own_ins, ↓g_eqi, ↓g_eqs, ↓g_nei, ↓g_nes, ↓p_bnd, ↓p_ret, ↓p_none, ↓p_fr, ↓p_and, ↓p_or, ↓p_not, ↓p_ifE, ↓p_bl, ↓p_nil, ↓p_cons, ↓p_tup, ↓p_lst, ↓p_drop, ↓p_rt, ↓p_mif, ↓p_for, ↓p_gNil, ↓p_gV, ↓p_gApp, ↓p_rV, ↓p_if, cs_un, cs_fr, List.length_cons, List.length_nil, List.length_map, Nat.zero_add, insD_i, decide_eq_true_eq, Bool.not_eq_true', Bool.not_true, Bool.not_false, decide_eq_false_iff_not, true_and, and_true, ne_eq, not_false_eq_true, List.lookup_cons, Nat.reduceAdd, isN_non, isN_bl, isN_int, isN_str, isN_tup, isN_lst, ↓reduceIte]
    refine gate_spec p3 (by omega) hs hs2 hu hu2 fun g l4 c1 p4 => ?_
    simp (decide := true) only [↓k_some, ↓k_no, ↓k_ite, ↓getK_0, ↓getK_s, ↓setK_0, ↓setK_s, ↓ff_0, ↓ff_s, ↓ff_o, ↓fo_l, ↓fo_i, ↓fk_fr, ↓fk_ow, ↓vk_fr, ↓vk_ow, ↓vw_fr, ↓vw_l, ↓mv_fr, ↓mv_ow, ↓sq_nx, ↓sq_bk, ↓sq_ct, ↓sq_rt, ↓fi_rt, ↓fi_nx, ↓ou_0, ↓ou_fr, ↓ou_ow, ↓ou_un, ↓ou_of, ↓ou_on, ↓un_00, ↓un_0s, ↓un_s, ↓rk_fr, ↓rk_un, ↓rk_ow, ↓ak_l, ↓lk_l, ↓si_l, ↓ls_0, ↓ls_s, ↓gb_fr, ↓gb_ow, ↓rb_fr, ↓rb_ow, ↓to_0, ↓to_v, ↓to_b, ↓to_map, ↓to_mapn, ↓tb_fr, ↓tb_ow, ↓bk_0, ↓bk_v, ↓bk_bi, ↓ba_0, ↓ba_s, ↓bk_mapf, ↓bk_mapn, ↓bb_fr, ↓bb_ow, ↓ui_un, ↓set_tag, ↓set_tagf, ↓df_0, ↓sp_0, ↓sp_n, ↓sp_s, ↓fs_0, ↓fs_s, ↓fs_map, ↓ct_0, ↓ct_fr, ↓ct_un, ↓ct_ow, ↓ap_00, ↓ap_0s, ↓ap_s, ↓as_0, ↓as_s, ↓in_v, ↓in_b, ↓ib_fr, ↓ib_ow, ↓fl_v, ↓fr_fd, ↓fl_b, ↓fb_fr, ↓fb_ow, ↓get_look, ↓ln_i, ↓sf_fr, ↓sf_ow, ↓mk_r, ↓w_var, ↓w_view, ↓w_lift, ↓w_frz, ↓w_m1, ↓w_m2, ↓w_mV2, ↓w_m2V, ↓w_tst, ↓w_isN, ↓w_notN, ↓bv_bl, ↓w_andV, ↓w_orV, ↓nv_bl, ↓w_notV, ↓w_ch, ↓pt_i, ↓w_part, ↓w_sl, ↓w_slV, ↓w_cal, ↓w_lenV, ↓w_is, ↓w_isO, ↓w_put, ↓w_set, ↓w_move, ↓w_seq, ↓w_asg, ↓w_app, ↓w_setI, ↓w_items, ↓w_gB, ↓w_rB, ↓w_cl, ↓w_callA, ↓w_gStar, ↓w_fld, ↓get_d1, ↓w_mth, ↓w_mthS, ↓w_prp, ↓w_lenO, ↓w_own2, ↓w_ownB, ↓w_augO, ↓w_setF, ↓w_fn, ↓w_mk, ↓w_arg, ↓w_any, ↓w_kw, ↓selR, ↓selA, ↓sQ_0, ↓sQ_s, ↓st_nx, ↓st_ct, ↓st_bk, ↓st_rt, ↓w_lc, ↓g_ixt, ↓g_ixl, ↓g_ixs, ↓at_0, ↓at_1, ↓at_2, ↓at_3, ↓ix_0, ↓ix_1, ↓ix_2, ↓g_addi, ↓g_adds, ↓g_addt, ↓g_addl, ↓g_muli, ↓g_mult, ↓g_mull, ↓g_sub, ↓g_div, ↓g_mod, ↓g_pow, ↓g_bD, ↓g_lt, ↓g_le, ↓g_gt, ↓g_ge, ↓g_neg, ↓g_bl, ↓g_int, ↓g_lent, ↓g_lenl, ↓g_lens, ↓g_list, ↓g_lisl, ↓g_tupt, ↓g_tupl, ↓g_max, ↓g_min, ↓g_itt, ↓g_itl, ↓g_its, ↓g_slt, ↓g_sll, ↓g_sls, ↓g_rng1, ↓g_rng2, ↓g_enum, ↓g_nm, ↓g_tp, ↓g_gc, ↓g_gn, ↓g_isIntD_non, ↓g_isIntD_bl, ↓g_isIntD_int, ↓g_isIntD_str, ↓g_isIntD_tup, ↓g_isIntD_lst, ↓g_isBoolD_non, ↓g_isBoolD_bl, ↓g_isBoolD_int, ↓g_isBoolD_str, ↓g_isBoolD_tup, ↓g_isBoolD_lst, ↓g_isTupD_non, ↓g_isTupD_bl, ↓g_isTupD_int, ↓g_isTupD_str, ↓g_isTupD_tup, ↓g_isTupD_lst, ↓g_isStrD_non, ↓g_isStrD_bl, ↓g_isStrD_int, ↓g_isStrD_str, ↓g_isStrD_tup, ↓g_isStrD_lst, ↓g_own_non, ↓g_own_bl, ↓g_own_int, ↓g_own_str, ↓g_own_tup, ↓g_own_lst, ↓g_own_ins, ↓g_eqi, ↓g_eqs, ↓g_nei, ↓g_nes, ↓p_bnd, ↓p_ret, ↓p_none, ↓p_fr, ↓p_and, ↓p_or, ↓p_not, ↓p_ifE, ↓p_bl, ↓p_nil, ↓p_cons, ↓p_tup, ↓p_lst, ↓p_drop, ↓p_rt, ↓p_mif, ↓p_for, ↓p_gNil, ↓p_gV, ↓p_gApp, ↓p_rV, ↓p_if, cs_un, cs_fr, List.length_cons, List.length_nil, List.length_map, Nat.zero_add, insD_i, decide_eq_true_eq, Bool.not_eq_true', Bool.not_true, Bool.not_false, decide_eq_false_iff_not, true_and, and_true, ne_eq, not_false_eq_true, List.lookup_cons, Nat.reduceAdd, isN_non, isN_bl, isN_int, isN_str, isN_tup, isN_lst, ↓reduceIte]
    refine ⟨l4, fun d hd => ?_, by simp [hl], p4.mono (by simp; omega), rfl⟩
    rcases List.mem_append.mp hd with q | q
    · exact hg d q
    · rw [List.mem_singleton.mp q]; exact c1
  · obtain ⟨l3, hg, hl, p3, rfl⟩ := hI
    rw [rngD_len] at hl p3
    simp (decide := true) only [↓k_some, ↓k_no, ↓k_ite, ↓getK_0, ↓getK_s, ↓setK_0, ↓setK_s, ↓ff_0, ↓ff_s, ↓ff_o, ↓fo_l, ↓fo_i, ↓fk_fr, ↓fk_ow, ↓vk_fr, ↓vk_ow, ↓vw_fr, ↓vw_l, ↓mv_fr, ↓mv_ow, ↓sq_nx, ↓sq_bk, ↓sq_ct, ↓sq_rt, ↓fi_rt, ↓fi_nx, ↓ou_0, ↓ou_fr, ↓ou_ow, ↓ou_un, ↓ou_of, ↓ou_on, ↓un_00, ↓un_0s, ↓un_s, ↓rk_fr, ↓rk_un, ↓rk_ow, ↓ak_l, ↓lk_l, ↓si_l, ↓ls_0, ↓ls_s, ↓gb_fr, ↓gb_ow, ↓rb_fr, ↓rb_ow, ↓to_0, ↓to_v, ↓to_b, ↓to_map, ↓to_mapn, ↓tb_fr, ↓tb_ow, ↓bk_0, ↓bk_v, ↓bk_bi, ↓ba_0, ↓ba_s, ↓bk_mapf, ↓bk_mapn, ↓bb_fr, ↓bb_ow, ↓ui_un, ↓set_tag, ↓set_tagf, ↓df_0, ↓sp_0, ↓sp_n, ↓sp_s, ↓fs_0, ↓fs_s, ↓fs_map, ↓ct_0, ↓ct_fr, ↓ct_un, ↓ct_ow, ↓ap_00, ↓ap_0s, ↓ap_s, ↓as_0, ↓as_s, ↓in_v, ↓in_b, ↓ib_fr, ↓ib_ow, ↓fl_v, ↓fr_fd, ↓fl_b, ↓fb_fr, ↓fb_ow, ↓get_look, ↓ln_i, ↓sf_fr, ↓sf_ow, ↓mk_r, ↓w_var, ↓w_view, ↓w_lift, ↓w_frz, ↓w_m1, ↓w_m2, ↓w_mV2, ↓w_m2V, ↓w_tst, ↓w_isN, ↓w_notN, ↓bv_bl, ↓w_andV, ↓w_orV, ↓nv_bl, ↓w_notV, ↓w_ch, ↓pt_i, ↓w_part, ↓w_sl, ↓w_slV, ↓w_cal, ↓w_lenV, ↓w_is, ↓w_isO, ↓w_put, ↓w_set, ↓w_move, ↓w_seq, ↓w_asg, ↓w_app, ↓w_setI, ↓w_items, ↓w_gB, ↓w_rB, ↓w_cl, ↓w_callA, ↓w_gStar, ↓w_fld, ↓get_d1, ↓w_mth, ↓w_mthS, ↓w_prp, ↓w_lenO, ↓w_own2, ↓w_ownB, ↓w_augO, ↓w_setF, ↓w_fn, ↓w_mk, ↓w_arg, ↓w_any, ↓w_kw, ↓selR, ↓selA, ↓sQ_0, ↓sQ_s, ↓st_nx, ↓st_ct, ↓st_bk, ↓st_rt, ↓w_lc, ↓g_ixt, ↓g_ixl, ↓g_ixs, ↓at_0, ↓at_1, ↓at_2, ↓at_3, ↓ix_0, ↓ix_1, ↓ix_2, ↓g_addi, ↓g_adds, ↓g_addt, ↓g_addl, ↓g_muli, ↓g_mult, ↓g_mull, ↓g_sub, ↓g_div, ↓g_mod, ↓g_pow, ↓g_bD, ↓g_lt, ↓g_le, ↓g_gt, ↓g_ge, ↓g_neg, ↓g_bl, ↓g_int, ↓g_lent, ↓g_lenl, ↓g_lens, ↓g_list, ↓g_lisl, ↓g_tupt, ↓g_tupl, ↓g_max, ↓g_min, ↓g_itt, ↓g_itl, ↓g_its, ↓g_slt, ↓g_sll, ↓g_sls, ↓g_rng1, ↓g_rng2, ↓g_enum, ↓g_nm, ↓g_tp, ↓g_gc, ↓g_gn, ↓g_isIntD_non, ↓g_isIntD_bl, ↓g_isIntD_int, ↓g_isIntD_str, ↓g_isIntD_tup, ↓g_isIntD_lst, ↓g_isBoolD_non, ↓g_isBoolD_bl, ↓g_isBoolD_int, ↓g_isBoolD_str, ↓g_isBoolD_tup, ↓g_isBoolD_lst, ↓g_isTupD_non, ↓g_isTupD_bl, ↓g_isTupD_int, ↓g_isTupD_str, ↓g_isTupD_tup, ↓g_isTupD_lst, ↓g_isStrD_non, ↓g_isStrD_bl, ↓g_isStrD_int, ↓g_isStrD_str, ↓g_isStrD_tup, ↓g_isStrD_lst, ↓g_own_non, ↓g_own_bl, ↓g_own_int, ↓g_own_str, ↓g_own_tup, ↓g_own_lst, ↓g_own_ins, ↓g_eqi, ↓g_eqs, ↓g_nei, ↓g_nes, ↓p_bnd, ↓p_ret, ↓p_none, ↓p_fr, ↓p_and, ↓p_or, ↓p_not, ↓p_ifE, ↓p_bl, ↓p_nil, ↓p_cons, ↓p_tup, ↓p_lst, ↓p_drop, ↓p_rt, ↓p_mif, ↓p_for, ↓p_gNil, ↓p_gV, ↓p_gApp, ↓p_rV, ↓p_if, cs_un, cs_fr, List.length_cons, List.length_nil, List.length_map, Nat.zero_add, insD_i, decide_eq_true_eq, Bool.not_eq_true', Bool.not_true, Bool.not_false, decide_eq_false_iff_not, true_and, and_true, ne_eq, not_false_eq_true, List.lookup_cons, Nat.reduceAdd, isN_non, isN_bl, isN_int, isN_str, isN_tup, isN_lst, ↓reduceIte]
    exact h acc l3 hg (by omega) (p3.mono (by omega))

end Law
end
section
set_option exponentiation.threshold 2000
namespace Law
open PySem PySem.Spec PyProof.Rows L2 L3
variable {Z : Cs}
/-! ### the looks -/
theorem isint_spec {i : Int} {Q : Sl → List Sl → Prop} (h : Q (.fr (.bl true)) [.fr (.int i)]) : PostF (f_is_integer Z) [.fr (.int i)] Q := by
  unfold f_is_integer b_is_integer
  simp (decide := true) only [↓k_some, ↓k_no, ↓k_ite, ↓getK_0, ↓getK_s, ↓setK_0, ↓setK_s, ↓ff_0, ↓ff_s, ↓ff_o, ↓fo_l, ↓fo_i, ↓fk_fr, ↓fk_ow, ↓vk_fr, ↓vk_ow, ↓vw_fr, ↓vw_l, ↓mv_fr, ↓mv_ow, ↓sq_nx, ↓sq_bk, ↓sq_ct, ↓sq_rt, ↓fi_rt, ↓fi_nx, ↓ou_0, ↓ou_fr, ↓ou_ow, ↓ou_un, ↓ou_of, ↓ou_on, ↓un_00, ↓un_0s, ↓un_s, ↓rk_fr, ↓rk_un, ↓rk_ow, ↓ak_l, ↓lk_l, ↓si_l, ↓ls_0, ↓ls_s, ↓gb_fr, ↓gb_ow, ↓rb_fr, ↓rb_ow, ↓to_0, ↓to_v, ↓to_b, ↓to_map, ↓to_mapn, ↓tb_fr, ↓tb_ow, ↓bk_0, ↓bk_v, ↓bk_bi, ↓ba_0, ↓ba_s, ↓bk_mapf, ↓bk_mapn, ↓bb_fr, ↓bb_ow, ↓ui_un, ↓set_tag, ↓set_tagf, ↓df_0, ↓sp_0, ↓sp_n, ↓sp_s, ↓fs_0, ↓fs_s, ↓fs_map, ↓ct_0, ↓ct_fr, ↓ct_un, ↓ct_ow, ↓ap_00, ↓ap_0s, ↓ap_s, ↓as_0, ↓as_s, ↓in_v, ↓in_b, ↓ib_fr, ↓ib_ow, ↓fl_v, ↓fr_fd, ↓fl_b, ↓fb_fr, ↓fb_ow, ↓get_look, ↓ln_i, ↓sf_fr, ↓sf_ow, ↓mk_r, ↓w_var, ↓w_view, ↓w_lift, ↓w_frz, ↓w_m1, ↓w_m2, ↓w_mV2, ↓w_m2V, ↓w_tst, ↓w_isN, ↓w_notN, ↓bv_bl, ↓w_andV, ↓w_orV, ↓nv_bl, ↓w_notV, ↓w_ch, ↓pt_i, ↓w_part, ↓w_sl, ↓w_slV, ↓w_cal, ↓w_lenV, ↓w_is, ↓w_isO, ↓w_put, ↓w_set, ↓w_move, ↓w_seq, ↓w_asg, ↓w_app, ↓w_setI, ↓w_items, ↓w_gB, ↓w_rB, ↓w_cl, ↓w_callA, ↓w_gStar, ↓w_fld, ↓get_d1, ↓w_mth, ↓w_mthS, ↓w_prp, ↓w_lenO, ↓w_own2, ↓w_ownB, ↓w_augO, ↓w_setF, ↓w_fn, ↓w_mk, ↓w_arg, ↓w_any, ↓w_kw, ↓selR, ↓selA, ↓sQ_0, ↓sQ_s, ↓st_nx, ↓st_ct, ↓st_bk, ↓st_rt, ↓w_lc, ↓g_ixt, ↓g_ixl, ↓g_ixs, ↓at_0, ↓at_1, ↓at_2, ↓at_3, ↓ix_0, ↓ix_1, ↓ix_2, ↓g_addi, ↓g_adds, ↓g_addt, ↓g_addl, ↓g_muli, ↓g_mult, ↓g_mull, ↓g_sub, ↓g_div, ↓g_mod, ↓g_pow, ↓g_bD, ↓g_lt, ↓g_le, ↓g_gt, ↓g_ge, ↓g_neg, ↓g_bl, ↓g_int, ↓g_lent, ↓g_lenl, ↓g_lens, ↓g_list, ↓g_lisl, ↓g_tupt, ↓g_tupl, ↓g_max, ↓g_min, ↓g_itt, ↓g_itl, ↓g_its, ↓g_slt, ↓g_sll, ↓g_sls, ↓g_rng1, ↓g_rng2, ↓g_enum, ↓g_nm, ↓g_tp, ↓g_gc, ↓g_gn, ↓g_isIntD_non, ↓g_isIntD_bl, ↓g_isIntD_int, ↓g_isIntD_str, ↓g_isIntD_tup, ↓g_isIntD_lst, ↓g_isBoolD_non, ↓g_isBoolD_bl, ↓g_isBoolD_int, ↓g_isBoolD_str, ↓g_isBoolD_tup, ↓g_isBoolD_lst, ↓g_isTupD_non, ↓g_isTupD_bl, ↓g_isTupD_int, ↓g_isTupD_str, ↓g_isTupD_tup, ↓g_isTupD_lst, ↓g_isStrD_non, ↓g_isStrD_bl, ↓g_isStrD_int, ↓g_isStrD_str, ↓g_isStrD_tup, ↓g_isStrD_lst, ↓g_own_non, ↓g_own_bl, ↓g_own_int, ↓g_own_str, ↓g_own_tup, ↓g_own_lst, ↓g_own_ins, ↓g_eqi, ↓g_eqs, ↓g_nei, ↓g_nes, ↓p_bnd, ↓p_ret, ↓p_none, ↓p_fr, ↓p_and, ↓p_or, ↓p_not, ↓p_ifE, ↓p_bl, ↓p_nil, ↓p_cons, ↓p_tup, ↓p_lst, ↓p_drop, ↓p_rt, ↓p_mif, ↓p_for, ↓p_gNil, ↓p_gV, ↓p_gApp, ↓p_rV, ↓p_if, cs_un, cs_fr, List.length_cons, List.length_nil, List.length_map, Nat.zero_add, insD_i, decide_eq_true_eq, Bool.not_eq_true', Bool.not_true, Bool.not_false, decide_eq_false_iff_not, true_and, and_true, ne_eq, not_false_eq_true, List.lookup_cons, Nat.reduceAdd, isN_non, isN_bl, isN_int, isN_str, isN_tup, isN_lst, ↓reduceIte]
  exact h
theorem tree_len {t : List D} (ht : IsTree t) : 1 ≤ t.length ∧ t.length ≤ 10 := by
  obtain ⟨is, rfl, hl, _⟩ := ht
  simp
  omega
theorem atI_in {α : Type} {l : List α} {k : Int} {v : α} (h0 : 0 ≤ k) (e : l[k.toNat]? = some v) : L2.atI l k = some v := by
  have := L2.atI_nat e
  rwa [show ((k.toNat : Nat) : Int) = k by omega] at this
theorem tree_spec {t : List D} {Q : Sl → List Sl → Prop} (ht : IsTree t) (h : Q (.fr (.bl true)) [.fr (.tup t)]) : PostF (f_is_tree Z) [.fr (.tup t)] Q := by
  obtain ⟨h1, h2⟩ := tree_len ht
  obtain ⟨is, rfl, hl, hu⟩ := ht
  unfold f_is_tree b_is_tree
  simp (decide := true) only [↓k_some, ↓k_no, ↓k_ite, ↓getK_0, ↓getK_s, ↓setK_0, ↓setK_s, ↓ff_0, ↓ff_s, ↓ff_o, ↓fo_l, ↓fo_i, ↓fk_fr, ↓fk_ow, ↓vk_fr, ↓vk_ow, ↓vw_fr, ↓vw_l, ↓mv_fr, ↓mv_ow, ↓sq_nx, ↓sq_bk, ↓sq_ct, ↓sq_rt, ↓fi_rt, ↓fi_nx, ↓ou_0, ↓ou_fr, ↓ou_ow, ↓ou_un, ↓ou_of, ↓ou_on, ↓un_00, ↓un_0s, ↓un_s, ↓rk_fr, ↓rk_un, ↓rk_ow, ↓ak_l, ↓lk_l, ↓si_l, ↓ls_0, ↓ls_s, ↓gb_fr, ↓gb_ow, ↓rb_fr, ↓rb_ow, ↓to_0, ↓to_v, ↓to_b, ↓to_map, ↓to_mapn, ↓tb_fr, ↓tb_ow, ↓bk_0, ↓bk_v, ↓bk_bi, ↓ba_0, ↓ba_s, ↓bk_mapf, ↓bk_mapn, ↓bb_fr, ↓bb_ow, ↓ui_un, ↓set_tag, ↓set_tagf, ↓df_0, ↓sp_0, ↓sp_n, ↓sp_s, ↓fs_0, ↓fs_s, ↓fs_map, ↓ct_0, ↓ct_fr, ↓ct_un, ↓ct_ow, ↓ap_00, ↓ap_0s, ↓ap_s, ↓as_0, ↓as_s, ↓in_v, ↓in_b, ↓ib_fr, ↓ib_ow, ↓fl_v, ↓fr_fd, ↓fl_b, ↓fb_fr, ↓fb_ow, ↓get_look, ↓ln_i, ↓sf_fr, ↓sf_ow, ↓mk_r, ↓w_var, ↓w_view, ↓w_lift, ↓w_frz, ↓w_m1, ↓w_m2, ↓w_mV2, ↓w_m2V, ↓w_tst, ↓w_isN, ↓w_notN, ↓bv_bl, ↓w_andV, ↓w_orV, ↓nv_bl, ↓w_notV, ↓w_ch, ↓pt_i, ↓w_part, ↓w_sl, ↓w_slV, ↓w_cal, ↓w_lenV, ↓w_is, ↓w_isO, ↓w_put, ↓w_set, ↓w_move, ↓w_seq, ↓w_asg, ↓w_app, ↓w_setI, ↓w_items, ↓w_gB, ↓w_rB, ↓w_cl, ↓w_callA, ↓w_gStar, ↓w_fld, ↓get_d1, ↓w_mth, ↓w_mthS, ↓w_prp, ↓w_lenO, ↓w_own2, ↓w_ownB, ↓w_augO, ↓w_setF, ↓w_fn, ↓w_mk, ↓w_arg, ↓w_any, ↓w_kw, ↓selR, ↓selA, ↓sQ_0, ↓sQ_s, ↓st_nx, ↓st_ct, ↓st_bk, ↓st_rt, ↓w_lc, ↓g_ixt, ↓g_ixl, ↓g_ixs, ↓at_0, ↓at_1, ↓at_2, ↓at_3, ↓ix_0, ↓ix_1, ↓ix_2, ↓g_addi, ↓g_adds, ↓g_addt, ↓g_addl, ↓g_muli, ↓g_mult, ↓g_mull, ↓g_sub, ↓g_div, ↓g_mod, ↓g_pow, ↓g_bD, ↓g_lt, ↓g_le, ↓g_gt, ↓g_ge, ↓g_neg, ↓g_bl, ↓g_int, ↓g_lent, ↓g_lenl, ↓g_lens, ↓g_list, ↓g_lisl, ↓g_tupt, ↓g_tupl, ↓g_max, ↓g_min, ↓g_itt, ↓g_itl, ↓g_its, ↓g_slt, ↓g_sll, ↓g_sls, ↓g_rng1, ↓g_rng2, ↓g_enum, ↓g_nm, ↓g_tp, ↓g_gc, ↓g_gn, ↓g_isIntD_non, ↓g_isIntD_bl, ↓g_isIntD_int, ↓g_isIntD_str, ↓g_isIntD_tup, ↓g_isIntD_lst, ↓g_isBoolD_non, ↓g_isBoolD_bl, ↓g_isBoolD_int, ↓g_isBoolD_str, ↓g_isBoolD_tup, ↓g_isBoolD_lst, ↓g_isTupD_non, ↓g_isTupD_bl, ↓g_isTupD_int, ↓g_isTupD_str, ↓g_isTupD_tup, ↓g_isTupD_lst, ↓g_isStrD_non, ↓g_isStrD_bl, ↓g_isStrD_int, ↓g_isStrD_str, ↓g_isStrD_tup, ↓g_isStrD_lst, ↓g_own_non, ↓g_own_bl, ↓g_own_int, ↓g_own_str, ↓g_own_tup, ↓g_own_lst, ↓g_own_ins, ↓g_eqi, ↓g_eqs, ↓g_nei, ↓g_nes, ↓p_bnd, ↓p_ret, ↓p_none, ↓p_fr, ↓p_and, ↓p_or, ↓p_not, ↓p_ifE, ↓p_bl, ↓p_nil, ↓p_cons, ↓p_tup, ↓p_lst, ↓p_drop, ↓p_rt, ↓p_mif, ↓p_for, ↓p_gNil, ↓p_gV, ↓p_gApp, ↓p_rV, ↓p_if, cs_un, cs_fr, List.length_cons, List.length_nil, List.length_map, Nat.zero_add, insD_i, decide_eq_true_eq, Bool.not_eq_true', Bool.not_true, Bool.not_false, decide_eq_false_iff_not, true_and, and_true, ne_eq, not_false_eq_true, List.lookup_cons, Nat.reduceAdd, isN_non, isN_bl, isN_int, isN_str, isN_tup, isN_lst, ↓reduceIte]
  rw [if_pos (by omega), if_neg (by omega)]
  refine ⟨by omega, ?_⟩
  refine for_inv (fun i a => ∃ x : Sl, a = [.fr (.tup (.non :: is.map .int)), x]) ⟨.un, rfl⟩ (fun i d a hd hI => ?_) (fun a hI => ?_)
  · obtain ⟨x, rfl⟩ := hI
    obtain ⟨hi, rfl⟩ := rngD_at hd
    have hi' : i < is.length := by simp at hi; omega
    have e1 : L2.atI (D.non :: is.map .int) (1 + (i : Int)) = some (.int is[i]) := by
      refine atI_in (by omega) ?_
      rw [show (1 + (i : Int)).toNat = i + 1 by omega]
      simp [hi']
    obtain ⟨u1, u2⟩ := hu i is[i] (by simp [hi'])
    simp (decide := true) only [↓k_some, ↓k_no, ↓k_ite, ↓getK_0, ↓getK_s, ↓setK_0, ↓setK_s, ↓ff_0, ↓ff_s, ↓ff_o, ↓fo_l, ↓fo_i, ↓fk_fr, ↓fk_ow, ↓vk_fr, ↓vk_ow, ↓vw_fr, ↓vw_l, ↓mv_fr, ↓mv_ow, ↓sq_nx, ↓sq_bk, ↓sq_ct, ↓sq_rt, ↓fi_rt, ↓fi_nx, ↓ou_0, ↓ou_fr, ↓ou_ow, ↓ou_un, ↓ou_of, ↓ou_on, ↓un_00, ↓un_0s, ↓un_s, ↓rk_fr, ↓rk_un, ↓rk_ow, ↓ak_l, ↓lk_l, ↓si_l, ↓ls_0, ↓ls_s, ↓gb_fr, ↓gb_ow, ↓rb_fr, ↓rb_ow, ↓to_0, ↓to_v, ↓to_b, ↓to_map, ↓to_mapn, ↓tb_fr, ↓tb_ow, ↓bk_0, ↓bk_v, ↓bk_bi, ↓ba_0, ↓ba_s, ↓bk_mapf, ↓bk_mapn, ↓bb_fr, ↓bb_ow, ↓ui_un, ↓set_tag, ↓set_tagf, ↓df_0, ↓sp_0, ↓sp_n, ↓sp_s, ↓fs_0, ↓fs_s, ↓fs_map, ↓ct_0, ↓ct_fr, ↓ct_un, ↓ct_ow, ↓ap_00, ↓ap_0s, ↓ap_s, ↓as_0, ↓as_s, ↓in_v, ↓in_b, ↓ib_fr, ↓ib_ow, ↓fl_v, ↓fr_fd, ↓fl_b, ↓fb_fr, ↓fb_ow, ↓get_look, ↓ln_i, ↓sf_fr, ↓sf_ow, ↓mk_r, ↓w_var, ↓w_view, ↓w_lift, ↓w_frz, ↓w_m1, ↓w_m2, ↓w_mV2, ↓w_m2V, ↓w_tst, ↓w_isN, ↓w_notN, ↓bv_bl, ↓w_andV, ↓w_orV, ↓nv_bl, ↓w_notV, ↓w_ch, ↓pt_i, ↓w_part, ↓w_sl, ↓w_slV, ↓w_cal, ↓w_lenV, ↓w_is, ↓w_isO, ↓w_put, ↓w_set, ↓w_move, ↓w_seq, ↓w_asg, ↓w_app, ↓w_setI, ↓w_items, ↓w_gB, ↓w_rB, ↓w_cl, ↓w_callA, ↓w_gStar, ↓w_fld, ↓get_d1, ↓w_mth, ↓w_mthS, ↓w_prp, ↓w_lenO, ↓w_own2, ↓w_ownB, ↓w_augO, ↓w_setF, ↓w_fn, ↓w_mk, ↓w_arg, ↓w_any, ↓w_kw, ↓selR, ↓selA, ↓sQ_0, ↓sQ_s, ↓st_nx, ↓st_ct, ↓st_bk, ↓st_rt, ↓w_lc, ↓g_ixt, ↓g_ixl, ↓g_ixs, ↓at_0, ↓at_1, ↓at_2, ↓at_3, ↓ix_0, ↓ix_1, ↓ix_2, ↓g_addi, ↓g_adds, ↓g_addt, ↓g_addl, ↓g_muli, ↓g_mult, ↓g_mull, ↓g_sub, ↓g_div, ↓g_mod, ↓g_pow, ↓g_bD, ↓g_lt, ↓g_le, ↓g_gt, ↓g_ge, ↓g_neg, ↓g_bl, ↓g_int, ↓g_lent, ↓g_lenl, ↓g_lens, ↓g_list, ↓g_lisl, ↓g_tupt, ↓g_tupl, ↓g_max, ↓g_min, ↓g_itt, ↓g_itl, ↓g_its, ↓g_slt, ↓g_sll, ↓g_sls, ↓g_rng1, ↓g_rng2, ↓g_enum, ↓g_nm, ↓g_tp, ↓g_gc, ↓g_gn, ↓g_isIntD_non, ↓g_isIntD_bl, ↓g_isIntD_int, ↓g_isIntD_str, ↓g_isIntD_tup, ↓g_isIntD_lst, ↓g_isBoolD_non, ↓g_isBoolD_bl, ↓g_isBoolD_int, ↓g_isBoolD_str, ↓g_isBoolD_tup, ↓g_isBoolD_lst, ↓g_isTupD_non, ↓g_isTupD_bl, ↓g_isTupD_int, ↓g_isTupD_str, ↓g_isTupD_tup, ↓g_isTupD_lst, ↓g_isStrD_non, ↓g_isStrD_bl, ↓g_isStrD_int, ↓g_isStrD_str, ↓g_isStrD_tup, ↓g_isStrD_lst, ↓g_own_non, ↓g_own_bl, ↓g_own_int, ↓g_own_str, ↓g_own_tup, ↓g_own_lst, ↓g_own_ins, ↓g_eqi, ↓g_eqs, ↓g_nei, ↓g_nes, ↓p_bnd, ↓p_ret, ↓p_none, ↓p_fr, ↓p_and, ↓p_or, ↓p_not, ↓p_ifE, ↓p_bl, ↓p_nil, ↓p_cons, ↓p_tup, ↓p_lst, ↓p_drop, ↓p_rt, ↓p_mif, ↓p_for, ↓p_gNil, ↓p_gV, ↓p_gApp, ↓p_rV, ↓p_if, cs_un, cs_fr, List.length_cons, List.length_nil, List.length_map, Nat.zero_add, insD_i, decide_eq_true_eq, Bool.not_eq_true', Bool.not_true, Bool.not_false, decide_eq_false_iff_not, true_and, and_true, ne_eq, not_false_eq_true, List.lookup_cons, Nat.reduceAdd, isN_non, isN_bl, isN_int, isN_str, isN_tup, isN_lst, ↓reduceIte]
    simp (decide := true) only [e1, ↓k_some, ↓k_no, ↓k_ite, ↓getK_0, ↓getK_s, ↓setK_0, ↓setK_s, ↓ff_0, ↓ff_s, ↓ff_o, ↓fo_l, ↓fo_i, ↓fk_fr, ↓fk_ow, ↓vk_fr, ↓vk_ow, ↓vw_fr, ↓vw_l, ↓mv_fr, ↓mv_ow, ↓sq_nx, ↓sq_bk, ↓sq_ct, ↓sq_rt, ↓fi_rt, ↓fi_nx, ↓ou_0, ↓ou_fr, ↓ou_ow, ↓ou_un, ↓ou_of, ↓ou_on, ↓un_00, ↓un_0s, ↓un_s, ↓rk_fr, ↓rk_un, ↓rk_ow, ↓ak_l, ↓lk_l, ↓si_l, ↓ls_0, ↓ls_s, ↓gb_fr, ↓gb_ow, ↓rb_fr, ↓rb_ow, ↓to_0, ↓to_v, ↓to_b, ↓to_map, ↓to_mapn, ↓tb_fr, ↓tb_ow, ↓bk_0, ↓bk_v, ↓bk_bi, ↓ba_0, ↓ba_s, ↓bk_mapf, ↓bk_mapn, ↓bb_fr, ↓bb_ow, ↓ui_un, ↓set_tag, ↓set_tagf, ↓df_0, ↓sp_0, ↓sp_n, ↓sp_s, ↓fs_0, ↓fs_s, ↓fs_map, ↓ct_0, ↓ct_fr, ↓ct_un, ↓ct_ow, ↓ap_00, ↓ap_0s, ↓ap_s, ↓as_0, ↓as_s, ↓in_v, ↓in_b, ↓ib_fr, ↓ib_ow, ↓fl_v, ↓fr_fd, ↓fl_b, ↓fb_fr, ↓fb_ow, ↓get_look, ↓ln_i, ↓sf_fr, ↓sf_ow, ↓mk_r, ↓w_var, ↓w_view, ↓w_lift, ↓w_frz, ↓w_m1, ↓w_m2, ↓w_mV2, ↓w_m2V, ↓w_tst, ↓w_isN, ↓w_notN, ↓bv_bl, ↓w_andV, ↓w_orV, ↓nv_bl, ↓w_notV, ↓w_ch, ↓pt_i, ↓w_part, ↓w_sl, ↓w_slV, ↓w_cal, ↓w_lenV, ↓w_is, ↓w_isO, ↓w_put, ↓w_set, ↓w_move, ↓w_seq, ↓w_asg, ↓w_app, ↓w_setI, ↓w_items, ↓w_gB, ↓w_rB, ↓w_cl, ↓w_callA, ↓w_gStar, ↓w_fld, ↓get_d1, ↓w_mth, ↓w_mthS, ↓w_prp, ↓w_lenO, ↓w_own2, ↓w_ownB, ↓w_augO, ↓w_setF, ↓w_fn, ↓w_mk, ↓w_arg, ↓w_any, ↓w_kw, ↓selR, ↓selA, ↓sQ_0, ↓sQ_s, ↓st_nx, ↓st_ct, ↓st_bk, ↓st_rt, ↓w_lc, ↓g_ixt, ↓g_ixl, ↓g_ixs, ↓at_0, ↓at_1, ↓at_2, ↓at_3, ↓ix_0, ↓ix_1, ↓ix_2, ↓g_addi, ↓g_adds, ↓g_addt, ↓g_addl, ↓g_muli, ↓g_mult, ↓g_mull, ↓g_sub, ↓g_div, ↓g_mod, ↓g_pow, ↓g_bD, ↓g_lt, ↓g_le, ↓g_gt, ↓g_ge, ↓g_neg, ↓g_bl, ↓g_int, ↓g_lent, ↓g_lenl, ↓g_lens, ↓g_list, ↓g_lisl, ↓g_tupt, ↓g_tupl, ↓g_max, ↓g_min, ↓g_itt, ↓g_itl, ↓g_its, ↓g_slt, ↓g_sll, ↓g_sls, ↓g_rng1, ↓g_rng2, ↓g_enum, ↓g_nm, ↓g_tp, ↓g_gc, ↓g_gn, ↓g_isIntD_non, ↓g_isIntD_bl, ↓g_isIntD_int, ↓g_isIntD_str, ↓g_isIntD_tup, ↓g_isIntD_lst, ↓g_isBoolD_non, ↓g_isBoolD_bl, ↓g_isBoolD_int, ↓g_isBoolD_str, ↓g_isBoolD_tup, ↓g_isBoolD_lst, ↓g_isTupD_non, ↓g_isTupD_bl, ↓g_isTupD_int, ↓g_isTupD_str, ↓g_isTupD_tup, ↓g_isTupD_lst, ↓g_isStrD_non, ↓g_isStrD_bl, ↓g_isStrD_int, ↓g_isStrD_str, ↓g_isStrD_tup, ↓g_isStrD_lst, ↓g_own_non, ↓g_own_bl, ↓g_own_int, ↓g_own_str, ↓g_own_tup, ↓g_own_lst, ↓g_own_ins, ↓g_eqi, ↓g_eqs, ↓g_nei, ↓g_nes, ↓p_bnd, ↓p_ret, ↓p_none, ↓p_fr, ↓p_and, ↓p_or, ↓p_not, ↓p_ifE, ↓p_bl, ↓p_nil, ↓p_cons, ↓p_tup, ↓p_lst, ↓p_drop, ↓p_rt, ↓p_mif, ↓p_for, ↓p_gNil, ↓p_gV, ↓p_gApp, ↓p_rV, ↓p_if, cs_un, cs_fr, List.length_cons, List.length_nil, List.length_map, Nat.zero_add, insD_i, decide_eq_true_eq, Bool.not_eq_true', Bool.not_true, Bool.not_false, decide_eq_false_iff_not, true_and, and_true, ne_eq, not_false_eq_true, List.lookup_cons, Nat.reduceAdd, isN_non, isN_bl, isN_int, isN_str, isN_tup, isN_lst, ↓reduceIte]
    refine isint_spec ?_
    simp (decide := true) only [e1, ↓k_some, ↓k_no, ↓k_ite, ↓getK_0, ↓getK_s, ↓setK_0, ↓setK_s, ↓ff_0, ↓ff_s, ↓ff_o, ↓fo_l, ↓fo_i, ↓fk_fr, ↓fk_ow, ↓vk_fr, ↓vk_ow, ↓vw_fr, ↓vw_l, ↓mv_fr, ↓mv_ow, ↓sq_nx, ↓sq_bk, ↓sq_ct, ↓sq_rt, ↓fi_rt, ↓fi_nx, ↓ou_0, ↓ou_fr, ↓ou_ow, ↓ou_un, ↓ou_of, ↓ou_on, ↓un_00, ↓un_0s, ↓un_s, ↓rk_fr, ↓rk_un, ↓rk_ow, ↓ak_l, ↓lk_l, ↓si_l, ↓ls_0, ↓ls_s, ↓gb_fr, ↓gb_ow, ↓rb_fr, ↓rb_ow, ↓to_0, ↓to_v, ↓to_b, ↓to_map, ↓to_mapn, ↓tb_fr, ↓tb_ow, ↓bk_0, ↓bk_v, ↓bk_bi, ↓ba_0, ↓ba_s, ↓bk_mapf, ↓bk_mapn, ↓bb_fr, ↓bb_ow, ↓ui_un, ↓set_tag, ↓set_tagf, ↓df_0, ↓sp_0, ↓sp_n, ↓sp_s, ↓fs_0, ↓fs_s, ↓fs_map, ↓ct_0, ↓ct_fr, ↓ct_un, ↓ct_ow, ↓ap_00, ↓ap_0s, ↓ap_s, ↓as_0, ↓as_s, ↓in_v, ↓in_b, ↓ib_fr, ↓ib_ow, ↓fl_v, ↓fr_fd, ↓fl_b, ↓fb_fr, ↓fb_ow, ↓get_look, ↓ln_i, ↓sf_fr, ↓sf_ow, ↓mk_r, ↓w_var, ↓w_view, ↓w_lift, ↓w_frz, ↓w_m1, ↓w_m2, ↓w_mV2, ↓w_m2V, ↓w_tst, ↓w_isN, ↓w_notN, ↓bv_bl, ↓w_andV, ↓w_orV, ↓nv_bl, ↓w_notV, ↓w_ch, ↓pt_i, ↓w_part, ↓w_sl, ↓w_slV, ↓w_cal, ↓w_lenV, ↓w_is, ↓w_isO, ↓w_put, ↓w_set, ↓w_move, ↓w_seq, ↓w_asg, ↓w_app, ↓w_setI, ↓w_items, ↓w_gB, ↓w_rB, ↓w_cl, ↓w_callA, ↓w_gStar, ↓w_fld, ↓get_d1, ↓w_mth, ↓w_mthS, ↓w_prp, ↓w_lenO, ↓w_own2, ↓w_ownB, ↓w_augO, ↓w_setF, ↓w_fn, ↓w_mk, ↓w_arg, ↓w_any, ↓w_kw, ↓selR, ↓selA, ↓sQ_0, ↓sQ_s, ↓st_nx, ↓st_ct, ↓st_bk, ↓st_rt, ↓w_lc, ↓g_ixt, ↓g_ixl, ↓g_ixs, ↓at_0, ↓at_1, ↓at_2, ↓at_3, ↓ix_0, ↓ix_1, ↓ix_2, ↓g_addi, ↓g_adds, ↓g_addt, ↓g_addl, ↓g_muli, ↓g_mult, ↓g_mull, ↓g_sub, ↓g_div, ↓g_mod, ↓g_pow, ↓g_bD, ↓g_lt, ↓g_le, ↓g_gt, ↓g_ge, ↓g_neg, ↓g_bl, ↓g_int, ↓g_lent, ↓g_lenl, ↓g_lens, ↓g_list, ↓g_lisl, ↓g_tupt, ↓g_tupl, ↓g_max, ↓g_min, ↓g_itt, ↓g_itl, ↓g_its, ↓g_slt, ↓g_sll, ↓g_sls, ↓g_rng1, ↓g_rng2, ↓g_enum, ↓g_nm, ↓g_tp, ↓g_gc, ↓g_gn, ↓g_isIntD_non, ↓g_isIntD_bl, ↓g_isIntD_int, ↓g_isIntD_str, ↓g_isIntD_tup, ↓g_isIntD_lst, ↓g_isBoolD_non, ↓g_isBoolD_bl, ↓g_isBoolD_int, ↓g_isBoolD_str, ↓g_isBoolD_tup, ↓g_isBoolD_lst, ↓g_isTupD_non, ↓g_isTupD_bl, ↓g_isTupD_int, ↓g_isTupD_str, ↓g_isTupD_tup, ↓g_isTupD_lst, ↓g_isStrD_non, ↓g_isStrD_bl, ↓g_isStrD_int, ↓g_isStrD_str, ↓g_isStrD_tup, ↓g_isStrD_lst, ↓g_own_non, ↓g_own_bl, ↓g_own_int, ↓g_own_str, ↓g_own_tup, ↓g_own_lst, ↓g_own_ins, ↓g_eqi, ↓g_eqs, ↓g_nei, ↓g_nes, ↓p_bnd, ↓p_ret, ↓p_none, ↓p_fr, ↓p_and, ↓p_or, ↓p_not, ↓p_ifE, ↓p_bl, ↓p_nil, ↓p_cons, ↓p_tup, ↓p_lst, ↓p_drop, ↓p_rt, ↓p_mif, ↓p_for, ↓p_gNil, ↓p_gV, ↓p_gApp, ↓p_rV, ↓p_if, cs_un, cs_fr, List.length_cons, List.length_nil, List.length_map, Nat.zero_add, insD_i, decide_eq_true_eq, Bool.not_eq_true', Bool.not_true, Bool.not_false, decide_eq_false_iff_not, true_and, and_true, ne_eq, not_false_eq_true, List.lookup_cons, Nat.reduceAdd, isN_non, isN_bl, isN_int, isN_str, isN_tup, isN_lst, ↓reduceIte]
    rw [if_pos u1, if_neg (by omega)]
    exact ⟨_, rfl⟩
  · obtain ⟨x, rfl⟩ := hI
    simp (decide := true) only [↓k_some, ↓k_no, ↓k_ite, ↓getK_0, ↓getK_s, ↓setK_0, ↓setK_s, ↓ff_0, ↓ff_s, ↓ff_o, ↓fo_l, ↓fo_i, ↓fk_fr, ↓fk_ow, ↓vk_fr, ↓vk_ow, ↓vw_fr, ↓vw_l, ↓mv_fr, ↓mv_ow, ↓sq_nx, ↓sq_bk, ↓sq_ct, ↓sq_rt, ↓fi_rt, ↓fi_nx, ↓ou_0, ↓ou_fr, ↓ou_ow, ↓ou_un, ↓ou_of, ↓ou_on, ↓un_00, ↓un_0s, ↓un_s, ↓rk_fr, ↓rk_un, ↓rk_ow, ↓ak_l, ↓lk_l, ↓si_l, ↓ls_0, ↓ls_s, ↓gb_fr, ↓gb_ow, ↓rb_fr, ↓rb_ow, ↓to_0, ↓to_v, ↓to_b, ↓to_map, ↓to_mapn, ↓tb_fr, ↓tb_ow, ↓bk_0, ↓bk_v, ↓bk_bi, ↓ba_0, ↓ba_s, ↓bk_mapf, ↓bk_mapn, ↓bb_fr, ↓bb_ow, ↓ui_un, ↓set_tag, ↓set_tagf, ↓df_0, ↓sp_0, ↓sp_n, ↓sp_s, ↓fs_0, ↓fs_s, ↓fs_map, ↓ct_0, ↓ct_fr, ↓ct_un, ↓ct_ow, ↓ap_00, ↓ap_0s, ↓ap_s, ↓as_0, ↓as_s, ↓in_v, ↓in_b, ↓ib_fr, ↓ib_ow, ↓fl_v, ↓fr_fd, ↓fl_b, ↓fb_fr, ↓fb_ow, ↓get_look, ↓ln_i, ↓sf_fr, ↓sf_ow, ↓mk_r, ↓w_var, ↓w_view, ↓w_lift, ↓w_frz, ↓w_m1, ↓w_m2, ↓w_mV2, ↓w_m2V, ↓w_tst, ↓w_isN, ↓w_notN, ↓bv_bl, ↓w_andV, ↓w_orV, ↓nv_bl, ↓w_notV, ↓w_ch, ↓pt_i, ↓w_part, ↓w_sl, ↓w_slV, ↓w_cal, ↓w_lenV, ↓w_is, ↓w_isO, ↓w_put, ↓w_set, ↓w_move, ↓w_seq, ↓w_asg, ↓w_app, ↓w_setI, ↓w_items, ↓w_gB, ↓w_rB, ↓w_cl, ↓w_callA, ↓w_gStar, ↓w_fld, ↓get_d1, ↓w_mth, ↓w_mthS, ↓w_prp, ↓w_lenO, ↓w_own2, ↓w_ownB, ↓w_augO, ↓w_setF, ↓w_fn, ↓w_mk, ↓w_arg, ↓w_any, ↓w_kw, ↓selR, ↓selA, ↓sQ_0, ↓sQ_s, ↓st_nx, ↓st_ct, ↓st_bk, ↓st_rt, ↓w_lc, ↓g_ixt, ↓g_ixl, ↓g_ixs, ↓at_0, ↓at_1, ↓at_2, ↓at_3, ↓ix_0, ↓ix_1, ↓ix_2, ↓g_addi, ↓g_adds, ↓g_addt, ↓g_addl, ↓g_muli, ↓g_mult, ↓g_mull, ↓g_sub, ↓g_div, ↓g_mod, ↓g_pow, ↓g_bD, ↓g_lt, ↓g_le, ↓g_gt, ↓g_ge, ↓g_neg, ↓g_bl, ↓g_int, ↓g_lent, ↓g_lenl, ↓g_lens, ↓g_list, ↓g_lisl, ↓g_tupt, ↓g_tupl, ↓g_max, ↓g_min, ↓g_itt, ↓g_itl, ↓g_its, ↓g_slt, ↓g_sll, ↓g_sls, ↓g_rng1, ↓g_rng2, ↓g_enum, ↓g_nm, ↓g_tp, ↓g_gc, ↓g_gn, ↓g_isIntD_non, ↓g_isIntD_bl, ↓g_isIntD_int, ↓g_isIntD_str, ↓g_isIntD_tup, ↓g_isIntD_lst, ↓g_isBoolD_non, ↓g_isBoolD_bl, ↓g_isBoolD_int, ↓g_isBoolD_str, ↓g_isBoolD_tup, ↓g_isBoolD_lst, ↓g_isTupD_non, ↓g_isTupD_bl, ↓g_isTupD_int, ↓g_isTupD_str, ↓g_isTupD_tup, ↓g_isTupD_lst, ↓g_isStrD_non, ↓g_isStrD_bl, ↓g_isStrD_int, ↓g_isStrD_str, ↓g_isStrD_tup, ↓g_isStrD_lst, ↓g_own_non, ↓g_own_bl, ↓g_own_int, ↓g_own_str, ↓g_own_tup, ↓g_own_lst, ↓g_own_ins, ↓g_eqi, ↓g_eqs, ↓g_nei, ↓g_nes, ↓p_bnd, ↓p_ret, ↓p_none, ↓p_fr, ↓p_and, ↓p_or, ↓p_not, ↓p_ifE, ↓p_bl, ↓p_nil, ↓p_cons, ↓p_tup, ↓p_lst, ↓p_drop, ↓p_rt, ↓p_mif, ↓p_for, ↓p_gNil, ↓p_gV, ↓p_gApp, ↓p_rV, ↓p_if, cs_un, cs_fr, List.length_cons, List.length_nil, List.length_map, Nat.zero_add, insD_i, decide_eq_true_eq, Bool.not_eq_true', Bool.not_true, Bool.not_false, decide_eq_false_iff_not, true_and, and_true, ne_eq, not_false_eq_true, List.lookup_cons, Nat.reduceAdd, isN_non, isN_bl, isN_int, isN_str, isN_tup, isN_lst, ↓reduceIte]
    exact h

theorem need_tree_spec {t : List D} {Q : Sl → List Sl → Prop} (ht : IsTree t) (h : Q (.fr .non) [.fr (.tup t)]) : PostF (f_need_tree Z) [.fr (.tup t)] Q := by
  unfold f_need_tree b_need_tree
  simp (decide := true) only [↓k_some, ↓k_no, ↓k_ite, ↓getK_0, ↓getK_s, ↓setK_0, ↓setK_s, ↓ff_0, ↓ff_s, ↓ff_o, ↓fo_l, ↓fo_i, ↓fk_fr, ↓fk_ow, ↓vk_fr, ↓vk_ow, ↓vw_fr, ↓vw_l, ↓mv_fr, ↓mv_ow, ↓sq_nx, ↓sq_bk, ↓sq_ct, ↓sq_rt, ↓fi_rt, ↓fi_nx, ↓ou_0, ↓ou_fr, ↓ou_ow, ↓ou_un, ↓ou_of, ↓ou_on, ↓un_00, ↓un_0s, ↓un_s, ↓rk_fr, ↓rk_un, ↓rk_ow, ↓ak_l, ↓lk_l, ↓si_l, ↓ls_0, ↓ls_s, ↓gb_fr, ↓gb_ow, ↓rb_fr, ↓rb_ow, ↓to_0, ↓to_v, ↓to_b, ↓to_map, ↓to_mapn, ↓tb_fr, ↓tb_ow, ↓bk_0, ↓bk_v, ↓bk_bi, ↓ba_0, ↓ba_s, ↓bk_mapf, ↓bk_mapn, ↓bb_fr, ↓bb_ow, ↓ui_un, ↓set_tag, ↓set_tagf, ↓df_0, ↓sp_0, ↓sp_n, ↓sp_s, ↓fs_0, ↓fs_s, ↓fs_map, ↓ct_0, ↓ct_fr, ↓ct_un, ↓ct_ow, ↓ap_00, ↓ap_0s, ↓ap_s, ↓as_0, ↓as_s, ↓in_v, ↓in_b, ↓ib_fr, ↓ib_ow, ↓fl_v, ↓fr_fd, ↓fl_b, ↓fb_fr, ↓fb_ow, ↓get_look, ↓ln_i, ↓sf_fr, ↓sf_ow, ↓mk_r, ↓w_var, ↓w_view, ↓w_lift, ↓w_frz, ↓w_m1, ↓w_m2, ↓w_mV2, ↓w_m2V, ↓w_tst, ↓w_isN, ↓w_notN, ↓bv_bl, ↓w_andV, ↓w_orV, ↓nv_bl, ↓w_notV, ↓w_ch, ↓pt_i, ↓w_part, ↓w_sl, ↓w_slV, ↓w_cal, ↓w_lenV, ↓w_is, ↓w_isO, ↓w_put, ↓w_set, ↓w_move, ↓w_seq, ↓w_asg, ↓w_app, ↓w_setI, ↓w_items, ↓w_gB, ↓w_rB, ↓w_cl, ↓w_callA, ↓w_gStar, ↓w_fld, ↓get_d1, ↓w_mth, ↓w_mthS, ↓w_prp, ↓w_lenO, ↓w_own2, ↓w_ownB, ↓w_augO, ↓w_setF, ↓w_fn, ↓w_mk, ↓w_arg, ↓w_any, ↓w_kw, ↓selR, ↓selA, ↓sQ_0, ↓sQ_s, ↓st_nx, ↓st_ct, ↓st_bk, ↓st_rt, ↓w_lc, ↓g_ixt, ↓g_ixl, ↓g_ixs, ↓at_0, ↓at_1, ↓at_2, ↓at_3, ↓ix_0, ↓ix_1, ↓ix_2, ↓g_addi, ↓g_adds, ↓g_addt, ↓g_addl, ↓g_muli, ↓g_mult, ↓g_mull, ↓g_sub, ↓g_div, ↓g_mod, ↓g_pow, ↓g_bD, ↓g_lt, ↓g_le, ↓g_gt, ↓g_ge, ↓g_neg, ↓g_bl, ↓g_int, ↓g_lent, ↓g_lenl, ↓g_lens, ↓g_list, ↓g_lisl, ↓g_tupt, ↓g_tupl, ↓g_max, ↓g_min, ↓g_itt, ↓g_itl, ↓g_its, ↓g_slt, ↓g_sll, ↓g_sls, ↓g_rng1, ↓g_rng2, ↓g_enum, ↓g_nm, ↓g_tp, ↓g_gc, ↓g_gn, ↓g_isIntD_non, ↓g_isIntD_bl, ↓g_isIntD_int, ↓g_isIntD_str, ↓g_isIntD_tup, ↓g_isIntD_lst, ↓g_isBoolD_non, ↓g_isBoolD_bl, ↓g_isBoolD_int, ↓g_isBoolD_str, ↓g_isBoolD_tup, ↓g_isBoolD_lst, ↓g_isTupD_non, ↓g_isTupD_bl, ↓g_isTupD_int, ↓g_isTupD_str, ↓g_isTupD_tup, ↓g_isTupD_lst, ↓g_isStrD_non, ↓g_isStrD_bl, ↓g_isStrD_int, ↓g_isStrD_str, ↓g_isStrD_tup, ↓g_isStrD_lst, ↓g_own_non, ↓g_own_bl, ↓g_own_int, ↓g_own_str, ↓g_own_tup, ↓g_own_lst, ↓g_own_ins, ↓g_eqi, ↓g_eqs, ↓g_nei, ↓g_nes, ↓p_bnd, ↓p_ret, ↓p_none, ↓p_fr, ↓p_and, ↓p_or, ↓p_not, ↓p_ifE, ↓p_bl, ↓p_nil, ↓p_cons, ↓p_tup, ↓p_lst, ↓p_drop, ↓p_rt, ↓p_mif, ↓p_for, ↓p_gNil, ↓p_gV, ↓p_gApp, ↓p_rV, ↓p_if, cs_un, cs_fr, List.length_cons, List.length_nil, List.length_map, Nat.zero_add, insD_i, decide_eq_true_eq, Bool.not_eq_true', Bool.not_true, Bool.not_false, decide_eq_false_iff_not, true_and, and_true, ne_eq, not_false_eq_true, List.lookup_cons, Nat.reduceAdd, isN_non, isN_bl, isN_int, isN_str, isN_tup, isN_lst, ↓reduceIte]
  refine tree_spec ht ?_
  simp (decide := true) only [↓k_some, ↓k_no, ↓k_ite, ↓getK_0, ↓getK_s, ↓setK_0, ↓setK_s, ↓ff_0, ↓ff_s, ↓ff_o, ↓fo_l, ↓fo_i, ↓fk_fr, ↓fk_ow, ↓vk_fr, ↓vk_ow, ↓vw_fr, ↓vw_l, ↓mv_fr, ↓mv_ow, ↓sq_nx, ↓sq_bk, ↓sq_ct, ↓sq_rt, ↓fi_rt, ↓fi_nx, ↓ou_0, ↓ou_fr, ↓ou_ow, ↓ou_un, ↓ou_of, ↓ou_on, ↓un_00, ↓un_0s, ↓un_s, ↓rk_fr, ↓rk_un, ↓rk_ow, ↓ak_l, ↓lk_l, ↓si_l, ↓ls_0, ↓ls_s, ↓gb_fr, ↓gb_ow, ↓rb_fr, ↓rb_ow, ↓to_0, ↓to_v, ↓to_b, ↓to_map, ↓to_mapn, ↓tb_fr, ↓tb_ow, ↓bk_0, ↓bk_v, ↓bk_bi, ↓ba_0, ↓ba_s, ↓bk_mapf, ↓bk_mapn, ↓bb_fr, ↓bb_ow, ↓ui_un, ↓set_tag, ↓set_tagf, ↓df_0, ↓sp_0, ↓sp_n, ↓sp_s, ↓fs_0, ↓fs_s, ↓fs_map, ↓ct_0, ↓ct_fr, ↓ct_un, ↓ct_ow, ↓ap_00, ↓ap_0s, ↓ap_s, ↓as_0, ↓as_s, ↓in_v, ↓in_b, ↓ib_fr, ↓ib_ow, ↓fl_v, ↓fr_fd, ↓fl_b, ↓fb_fr, ↓fb_ow, ↓get_look, ↓ln_i, ↓sf_fr, ↓sf_ow, ↓mk_r, ↓w_var, ↓w_view, ↓w_lift, ↓w_frz, ↓w_m1, ↓w_m2, ↓w_mV2, ↓w_m2V, ↓w_tst, ↓w_isN, ↓w_notN, ↓bv_bl, ↓w_andV, ↓w_orV, ↓nv_bl, ↓w_notV, ↓w_ch, ↓pt_i, ↓w_part, ↓w_sl, ↓w_slV, ↓w_cal, ↓w_lenV, ↓w_is, ↓w_isO, ↓w_put, ↓w_set, ↓w_move, ↓w_seq, ↓w_asg, ↓w_app, ↓w_setI, ↓w_items, ↓w_gB, ↓w_rB, ↓w_cl, ↓w_callA, ↓w_gStar, ↓w_fld, ↓get_d1, ↓w_mth, ↓w_mthS, ↓w_prp, ↓w_lenO, ↓w_own2, ↓w_ownB, ↓w_augO, ↓w_setF, ↓w_fn, ↓w_mk, ↓w_arg, ↓w_any, ↓w_kw, ↓selR, ↓selA, ↓sQ_0, ↓sQ_s, ↓st_nx, ↓st_ct, ↓st_bk, ↓st_rt, ↓w_lc, ↓g_ixt, ↓g_ixl, ↓g_ixs, ↓at_0, ↓at_1, ↓at_2, ↓at_3, ↓ix_0, ↓ix_1, ↓ix_2, ↓g_addi, ↓g_adds, ↓g_addt, ↓g_addl, ↓g_muli, ↓g_mult, ↓g_mull, ↓g_sub, ↓g_div, ↓g_mod, ↓g_pow, ↓g_bD, ↓g_lt, ↓g_le, ↓g_gt, ↓g_ge, ↓g_neg, ↓g_bl, ↓g_int, ↓g_lent, ↓g_lenl, ↓g_lens, ↓g_list, ↓g_lisl, ↓g_tupt, ↓g_tupl, ↓g_max, ↓g_min, ↓g_itt, ↓g_itl, ↓g_its, ↓g_slt, ↓g_sll, ↓g_sls, ↓g_rng1, ↓g_rng2, ↓g_enum, ↓g_nm, ↓g_tp, ↓g_gc, ↓g_gn, ↓g_isIntD_non, ↓g_isIntD_bl, ↓g_isIntD_int, ↓g_isIntD_str, ↓g_isIntD_tup, ↓g_isIntD_lst, ↓g_isBoolD_non, ↓g_isBoolD_bl, ↓g_isBoolD_int, ↓g_isBoolD_str, ↓g_isBoolD_tup, ↓g_isBoolD_lst, ↓g_isTupD_non, ↓g_isTupD_bl, ↓g_isTupD_int, ↓g_isTupD_str, ↓g_isTupD_tup, ↓g_isTupD_lst, ↓g_isStrD_non, ↓g_isStrD_bl, ↓g_isStrD_int, ↓g_isStrD_str, ↓g_isStrD_tup, ↓g_isStrD_lst, ↓g_own_non, ↓g_own_bl, ↓g_own_int, ↓g_own_str, ↓g_own_tup, ↓g_own_lst, ↓g_own_ins, ↓g_eqi, ↓g_eqs, ↓g_nei, ↓g_nes, ↓p_bnd, ↓p_ret, ↓p_none, ↓p_fr, ↓p_and, ↓p_or, ↓p_not, ↓p_ifE, ↓p_bl, ↓p_nil, ↓p_cons, ↓p_tup, ↓p_lst, ↓p_drop, ↓p_rt, ↓p_mif, ↓p_for, ↓p_gNil, ↓p_gV, ↓p_gApp, ↓p_rV, ↓p_if, cs_un, cs_fr, List.length_cons, List.length_nil, List.length_map, Nat.zero_add, insD_i, decide_eq_true_eq, Bool.not_eq_true', Bool.not_true, Bool.not_false, decide_eq_false_iff_not, true_and, and_true, ne_eq, not_false_eq_true, List.lookup_cons, Nat.reduceAdd, isN_non, isN_bl, isN_int, isN_str, isN_tup, isN_lst, ↓reduceIte]
  exact h
theorem spot_spec {t : List D} {i : Int} {Q : Sl → List Sl → Prop} (h0 : 0 ≤ i) (h1 : i < t.length) (h : Q (.fr (.bl true)) [.fr (.tup t), .fr (.int i)]) : PostF (f_is_spot Z) [.fr (.tup t), .fr (.int i)] Q := by
  unfold f_is_spot b_is_spot
  simp (decide := true) only [↓k_some, ↓k_no, ↓k_ite, ↓getK_0, ↓getK_s, ↓setK_0, ↓setK_s, ↓ff_0, ↓ff_s, ↓ff_o, ↓fo_l, ↓fo_i, ↓fk_fr, ↓fk_ow, ↓vk_fr, ↓vk_ow, ↓vw_fr, ↓vw_l, ↓mv_fr, ↓mv_ow, ↓sq_nx, ↓sq_bk, ↓sq_ct, ↓sq_rt, ↓fi_rt, ↓fi_nx, ↓ou_0, ↓ou_fr, ↓ou_ow, ↓ou_un, ↓ou_of, ↓ou_on, ↓un_00, ↓un_0s, ↓un_s, ↓rk_fr, ↓rk_un, ↓rk_ow, ↓ak_l, ↓lk_l, ↓si_l, ↓ls_0, ↓ls_s, ↓gb_fr, ↓gb_ow, ↓rb_fr, ↓rb_ow, ↓to_0, ↓to_v, ↓to_b, ↓to_map, ↓to_mapn, ↓tb_fr, ↓tb_ow, ↓bk_0, ↓bk_v, ↓bk_bi, ↓ba_0, ↓ba_s, ↓bk_mapf, ↓bk_mapn, ↓bb_fr, ↓bb_ow, ↓ui_un, ↓set_tag, ↓set_tagf, ↓df_0, ↓sp_0, ↓sp_n, ↓sp_s, ↓fs_0, ↓fs_s, ↓fs_map, ↓ct_0, ↓ct_fr, ↓ct_un, ↓ct_ow, ↓ap_00, ↓ap_0s, ↓ap_s, ↓as_0, ↓as_s, ↓in_v, ↓in_b, ↓ib_fr, ↓ib_ow, ↓fl_v, ↓fr_fd, ↓fl_b, ↓fb_fr, ↓fb_ow, ↓get_look, ↓ln_i, ↓sf_fr, ↓sf_ow, ↓mk_r, ↓w_var, ↓w_view, ↓w_lift, ↓w_frz, ↓w_m1, ↓w_m2, ↓w_mV2, ↓w_m2V, ↓w_tst, ↓w_isN, ↓w_notN, ↓bv_bl, ↓w_andV, ↓w_orV, ↓nv_bl, ↓w_notV, ↓w_ch, ↓pt_i, ↓w_part, ↓w_sl, ↓w_slV, ↓w_cal, ↓w_lenV, ↓w_is, ↓w_isO, ↓w_put, ↓w_set, ↓w_move, ↓w_seq, ↓w_asg, ↓w_app, ↓w_setI, ↓w_items, ↓w_gB, ↓w_rB, ↓w_cl, ↓w_callA, ↓w_gStar, ↓w_fld, ↓get_d1, ↓w_mth, ↓w_mthS, ↓w_prp, ↓w_lenO, ↓w_own2, ↓w_ownB, ↓w_augO, ↓w_setF, ↓w_fn, ↓w_mk, ↓w_arg, ↓w_any, ↓w_kw, ↓selR, ↓selA, ↓sQ_0, ↓sQ_s, ↓st_nx, ↓st_ct, ↓st_bk, ↓st_rt, ↓w_lc, ↓g_ixt, ↓g_ixl, ↓g_ixs, ↓at_0, ↓at_1, ↓at_2, ↓at_3, ↓ix_0, ↓ix_1, ↓ix_2, ↓g_addi, ↓g_adds, ↓g_addt, ↓g_addl, ↓g_muli, ↓g_mult, ↓g_mull, ↓g_sub, ↓g_div, ↓g_mod, ↓g_pow, ↓g_bD, ↓g_lt, ↓g_le, ↓g_gt, ↓g_ge, ↓g_neg, ↓g_bl, ↓g_int, ↓g_lent, ↓g_lenl, ↓g_lens, ↓g_list, ↓g_lisl, ↓g_tupt, ↓g_tupl, ↓g_max, ↓g_min, ↓g_itt, ↓g_itl, ↓g_its, ↓g_slt, ↓g_sll, ↓g_sls, ↓g_rng1, ↓g_rng2, ↓g_enum, ↓g_nm, ↓g_tp, ↓g_gc, ↓g_gn, ↓g_isIntD_non, ↓g_isIntD_bl, ↓g_isIntD_int, ↓g_isIntD_str, ↓g_isIntD_tup, ↓g_isIntD_lst, ↓g_isBoolD_non, ↓g_isBoolD_bl, ↓g_isBoolD_int, ↓g_isBoolD_str, ↓g_isBoolD_tup, ↓g_isBoolD_lst, ↓g_isTupD_non, ↓g_isTupD_bl, ↓g_isTupD_int, ↓g_isTupD_str, ↓g_isTupD_tup, ↓g_isTupD_lst, ↓g_isStrD_non, ↓g_isStrD_bl, ↓g_isStrD_int, ↓g_isStrD_str, ↓g_isStrD_tup, ↓g_isStrD_lst, ↓g_own_non, ↓g_own_bl, ↓g_own_int, ↓g_own_str, ↓g_own_tup, ↓g_own_lst, ↓g_own_ins, ↓g_eqi, ↓g_eqs, ↓g_nei, ↓g_nes, ↓p_bnd, ↓p_ret, ↓p_none, ↓p_fr, ↓p_and, ↓p_or, ↓p_not, ↓p_ifE, ↓p_bl, ↓p_nil, ↓p_cons, ↓p_tup, ↓p_lst, ↓p_drop, ↓p_rt, ↓p_mif, ↓p_for, ↓p_gNil, ↓p_gV, ↓p_gApp, ↓p_rV, ↓p_if, cs_un, cs_fr, List.length_cons, List.length_nil, List.length_map, Nat.zero_add, insD_i, decide_eq_true_eq, Bool.not_eq_true', Bool.not_true, Bool.not_false, decide_eq_false_iff_not, true_and, and_true, ne_eq, not_false_eq_true, List.lookup_cons, Nat.reduceAdd, isN_non, isN_bl, isN_int, isN_str, isN_tup, isN_lst, ↓reduceIte]
  rw [if_pos h0]
  simp (decide := true) only [h1, ↓k_some, ↓k_no, ↓k_ite, ↓getK_0, ↓getK_s, ↓setK_0, ↓setK_s, ↓ff_0, ↓ff_s, ↓ff_o, ↓fo_l, ↓fo_i, ↓fk_fr, ↓fk_ow, ↓vk_fr, ↓vk_ow, ↓vw_fr, ↓vw_l, ↓mv_fr, ↓mv_ow, ↓sq_nx, ↓sq_bk, ↓sq_ct, ↓sq_rt, ↓fi_rt, ↓fi_nx, ↓ou_0, ↓ou_fr, ↓ou_ow, ↓ou_un, ↓ou_of, ↓ou_on, ↓un_00, ↓un_0s, ↓un_s, ↓rk_fr, ↓rk_un, ↓rk_ow, ↓ak_l, ↓lk_l, ↓si_l, ↓ls_0, ↓ls_s, ↓gb_fr, ↓gb_ow, ↓rb_fr, ↓rb_ow, ↓to_0, ↓to_v, ↓to_b, ↓to_map, ↓to_mapn, ↓tb_fr, ↓tb_ow, ↓bk_0, ↓bk_v, ↓bk_bi, ↓ba_0, ↓ba_s, ↓bk_mapf, ↓bk_mapn, ↓bb_fr, ↓bb_ow, ↓ui_un, ↓set_tag, ↓set_tagf, ↓df_0, ↓sp_0, ↓sp_n, ↓sp_s, ↓fs_0, ↓fs_s, ↓fs_map, ↓ct_0, ↓ct_fr, ↓ct_un, ↓ct_ow, ↓ap_00, ↓ap_0s, ↓ap_s, ↓as_0, ↓as_s, ↓in_v, ↓in_b, ↓ib_fr, ↓ib_ow, ↓fl_v, ↓fr_fd, ↓fl_b, ↓fb_fr, ↓fb_ow, ↓get_look, ↓ln_i, ↓sf_fr, ↓sf_ow, ↓mk_r, ↓w_var, ↓w_view, ↓w_lift, ↓w_frz, ↓w_m1, ↓w_m2, ↓w_mV2, ↓w_m2V, ↓w_tst, ↓w_isN, ↓w_notN, ↓bv_bl, ↓w_andV, ↓w_orV, ↓nv_bl, ↓w_notV, ↓w_ch, ↓pt_i, ↓w_part, ↓w_sl, ↓w_slV, ↓w_cal, ↓w_lenV, ↓w_is, ↓w_isO, ↓w_put, ↓w_set, ↓w_move, ↓w_seq, ↓w_asg, ↓w_app, ↓w_setI, ↓w_items, ↓w_gB, ↓w_rB, ↓w_cl, ↓w_callA, ↓w_gStar, ↓w_fld, ↓get_d1, ↓w_mth, ↓w_mthS, ↓w_prp, ↓w_lenO, ↓w_own2, ↓w_ownB, ↓w_augO, ↓w_setF, ↓w_fn, ↓w_mk, ↓w_arg, ↓w_any, ↓w_kw, ↓selR, ↓selA, ↓sQ_0, ↓sQ_s, ↓st_nx, ↓st_ct, ↓st_bk, ↓st_rt, ↓w_lc, ↓g_ixt, ↓g_ixl, ↓g_ixs, ↓at_0, ↓at_1, ↓at_2, ↓at_3, ↓ix_0, ↓ix_1, ↓ix_2, ↓g_addi, ↓g_adds, ↓g_addt, ↓g_addl, ↓g_muli, ↓g_mult, ↓g_mull, ↓g_sub, ↓g_div, ↓g_mod, ↓g_pow, ↓g_bD, ↓g_lt, ↓g_le, ↓g_gt, ↓g_ge, ↓g_neg, ↓g_bl, ↓g_int, ↓g_lent, ↓g_lenl, ↓g_lens, ↓g_list, ↓g_lisl, ↓g_tupt, ↓g_tupl, ↓g_max, ↓g_min, ↓g_itt, ↓g_itl, ↓g_its, ↓g_slt, ↓g_sll, ↓g_sls, ↓g_rng1, ↓g_rng2, ↓g_enum, ↓g_nm, ↓g_tp, ↓g_gc, ↓g_gn, ↓g_isIntD_non, ↓g_isIntD_bl, ↓g_isIntD_int, ↓g_isIntD_str, ↓g_isIntD_tup, ↓g_isIntD_lst, ↓g_isBoolD_non, ↓g_isBoolD_bl, ↓g_isBoolD_int, ↓g_isBoolD_str, ↓g_isBoolD_tup, ↓g_isBoolD_lst, ↓g_isTupD_non, ↓g_isTupD_bl, ↓g_isTupD_int, ↓g_isTupD_str, ↓g_isTupD_tup, ↓g_isTupD_lst, ↓g_isStrD_non, ↓g_isStrD_bl, ↓g_isStrD_int, ↓g_isStrD_str, ↓g_isStrD_tup, ↓g_isStrD_lst, ↓g_own_non, ↓g_own_bl, ↓g_own_int, ↓g_own_str, ↓g_own_tup, ↓g_own_lst, ↓g_own_ins, ↓g_eqi, ↓g_eqs, ↓g_nei, ↓g_nes, ↓p_bnd, ↓p_ret, ↓p_none, ↓p_fr, ↓p_and, ↓p_or, ↓p_not, ↓p_ifE, ↓p_bl, ↓p_nil, ↓p_cons, ↓p_tup, ↓p_lst, ↓p_drop, ↓p_rt, ↓p_mif, ↓p_for, ↓p_gNil, ↓p_gV, ↓p_gApp, ↓p_rV, ↓p_if, cs_un, cs_fr, List.length_cons, List.length_nil, List.length_map, Nat.zero_add, insD_i, decide_eq_true_eq, Bool.not_eq_true', Bool.not_true, Bool.not_false, decide_eq_false_iff_not, true_and, and_true, ne_eq, not_false_eq_true, List.lookup_cons, Nat.reduceAdd, isN_non, isN_bl, isN_int, isN_str, isN_tup, isN_lst, ↓reduceIte]
  exact h
theorem there_spec {t : List D} {i : Int} {Q : Sl → List Sl → Prop} (h0 : 0 ≤ i) (h1 : i < t.length) (h : Q (.fr (.bl true)) [.fr (.tup t), .fr (.int i)]) : PostF (f_locale_there Z) [.fr (.tup t), .fr (.int i)] Q := by
  unfold f_locale_there b_locale_there
  simp (decide := true) only [↓k_some, ↓k_no, ↓k_ite, ↓getK_0, ↓getK_s, ↓setK_0, ↓setK_s, ↓ff_0, ↓ff_s, ↓ff_o, ↓fo_l, ↓fo_i, ↓fk_fr, ↓fk_ow, ↓vk_fr, ↓vk_ow, ↓vw_fr, ↓vw_l, ↓mv_fr, ↓mv_ow, ↓sq_nx, ↓sq_bk, ↓sq_ct, ↓sq_rt, ↓fi_rt, ↓fi_nx, ↓ou_0, ↓ou_fr, ↓ou_ow, ↓ou_un, ↓ou_of, ↓ou_on, ↓un_00, ↓un_0s, ↓un_s, ↓rk_fr, ↓rk_un, ↓rk_ow, ↓ak_l, ↓lk_l, ↓si_l, ↓ls_0, ↓ls_s, ↓gb_fr, ↓gb_ow, ↓rb_fr, ↓rb_ow, ↓to_0, ↓to_v, ↓to_b, ↓to_map, ↓to_mapn, ↓tb_fr, ↓tb_ow, ↓bk_0, ↓bk_v, ↓bk_bi, ↓ba_0, ↓ba_s, ↓bk_mapf, ↓bk_mapn, ↓bb_fr, ↓bb_ow, ↓ui_un, ↓set_tag, ↓set_tagf, ↓df_0, ↓sp_0, ↓sp_n, ↓sp_s, ↓fs_0, ↓fs_s, ↓fs_map, ↓ct_0, ↓ct_fr, ↓ct_un, ↓ct_ow, ↓ap_00, ↓ap_0s, ↓ap_s, ↓as_0, ↓as_s, ↓in_v, ↓in_b, ↓ib_fr, ↓ib_ow, ↓fl_v, ↓fr_fd, ↓fl_b, ↓fb_fr, ↓fb_ow, ↓get_look, ↓ln_i, ↓sf_fr, ↓sf_ow, ↓mk_r, ↓w_var, ↓w_view, ↓w_lift, ↓w_frz, ↓w_m1, ↓w_m2, ↓w_mV2, ↓w_m2V, ↓w_tst, ↓w_isN, ↓w_notN, ↓bv_bl, ↓w_andV, ↓w_orV, ↓nv_bl, ↓w_notV, ↓w_ch, ↓pt_i, ↓w_part, ↓w_sl, ↓w_slV, ↓w_cal, ↓w_lenV, ↓w_is, ↓w_isO, ↓w_put, ↓w_set, ↓w_move, ↓w_seq, ↓w_asg, ↓w_app, ↓w_setI, ↓w_items, ↓w_gB, ↓w_rB, ↓w_cl, ↓w_callA, ↓w_gStar, ↓w_fld, ↓get_d1, ↓w_mth, ↓w_mthS, ↓w_prp, ↓w_lenO, ↓w_own2, ↓w_ownB, ↓w_augO, ↓w_setF, ↓w_fn, ↓w_mk, ↓w_arg, ↓w_any, ↓w_kw, ↓selR, ↓selA, ↓sQ_0, ↓sQ_s, ↓st_nx, ↓st_ct, ↓st_bk, ↓st_rt, ↓w_lc, ↓g_ixt, ↓g_ixl, ↓g_ixs, ↓at_0, ↓at_1, ↓at_2, ↓at_3, ↓ix_0, ↓ix_1, ↓ix_2, ↓g_addi, ↓g_adds, ↓g_addt, ↓g_addl, ↓g_muli, ↓g_mult, ↓g_mull, ↓g_sub, ↓g_div, ↓g_mod, ↓g_pow, ↓g_bD, ↓g_lt, ↓g_le, ↓g_gt, ↓g_ge, ↓g_neg, ↓g_bl, ↓g_int, ↓g_lent, ↓g_lenl, ↓g_lens, ↓g_list, ↓g_lisl, ↓g_tupt, ↓g_tupl, ↓g_max, ↓g_min, ↓g_itt, ↓g_itl, ↓g_its, ↓g_slt, ↓g_sll, ↓g_sls, ↓g_rng1, ↓g_rng2, ↓g_enum, ↓g_nm, ↓g_tp, ↓g_gc, ↓g_gn, ↓g_isIntD_non, ↓g_isIntD_bl, ↓g_isIntD_int, ↓g_isIntD_str, ↓g_isIntD_tup, ↓g_isIntD_lst, ↓g_isBoolD_non, ↓g_isBoolD_bl, ↓g_isBoolD_int, ↓g_isBoolD_str, ↓g_isBoolD_tup, ↓g_isBoolD_lst, ↓g_isTupD_non, ↓g_isTupD_bl, ↓g_isTupD_int, ↓g_isTupD_str, ↓g_isTupD_tup, ↓g_isTupD_lst, ↓g_isStrD_non, ↓g_isStrD_bl, ↓g_isStrD_int, ↓g_isStrD_str, ↓g_isStrD_tup, ↓g_isStrD_lst, ↓g_own_non, ↓g_own_bl, ↓g_own_int, ↓g_own_str, ↓g_own_tup, ↓g_own_lst, ↓g_own_ins, ↓g_eqi, ↓g_eqs, ↓g_nei, ↓g_nes, ↓p_bnd, ↓p_ret, ↓p_none, ↓p_fr, ↓p_and, ↓p_or, ↓p_not, ↓p_ifE, ↓p_bl, ↓p_nil, ↓p_cons, ↓p_tup, ↓p_lst, ↓p_drop, ↓p_rt, ↓p_mif, ↓p_for, ↓p_gNil, ↓p_gV, ↓p_gApp, ↓p_rV, ↓p_if, cs_un, cs_fr, List.length_cons, List.length_nil, List.length_map, Nat.zero_add, insD_i, decide_eq_true_eq, Bool.not_eq_true', Bool.not_true, Bool.not_false, decide_eq_false_iff_not, true_and, and_true, ne_eq, not_false_eq_true, List.lookup_cons, Nat.reduceAdd, isN_non, isN_bl, isN_int, isN_str, isN_tup, isN_lst, ↓reduceIte]
  refine isint_spec ?_
  simp (decide := true) only [↓k_some, ↓k_no, ↓k_ite, ↓getK_0, ↓getK_s, ↓setK_0, ↓setK_s, ↓ff_0, ↓ff_s, ↓ff_o, ↓fo_l, ↓fo_i, ↓fk_fr, ↓fk_ow, ↓vk_fr, ↓vk_ow, ↓vw_fr, ↓vw_l, ↓mv_fr, ↓mv_ow, ↓sq_nx, ↓sq_bk, ↓sq_ct, ↓sq_rt, ↓fi_rt, ↓fi_nx, ↓ou_0, ↓ou_fr, ↓ou_ow, ↓ou_un, ↓ou_of, ↓ou_on, ↓un_00, ↓un_0s, ↓un_s, ↓rk_fr, ↓rk_un, ↓rk_ow, ↓ak_l, ↓lk_l, ↓si_l, ↓ls_0, ↓ls_s, ↓gb_fr, ↓gb_ow, ↓rb_fr, ↓rb_ow, ↓to_0, ↓to_v, ↓to_b, ↓to_map, ↓to_mapn, ↓tb_fr, ↓tb_ow, ↓bk_0, ↓bk_v, ↓bk_bi, ↓ba_0, ↓ba_s, ↓bk_mapf, ↓bk_mapn, ↓bb_fr, ↓bb_ow, ↓ui_un, ↓set_tag, ↓set_tagf, ↓df_0, ↓sp_0, ↓sp_n, ↓sp_s, ↓fs_0, ↓fs_s, ↓fs_map, ↓ct_0, ↓ct_fr, ↓ct_un, ↓ct_ow, ↓ap_00, ↓ap_0s, ↓ap_s, ↓as_0, ↓as_s, ↓in_v, ↓in_b, ↓ib_fr, ↓ib_ow, ↓fl_v, ↓fr_fd, ↓fl_b, ↓fb_fr, ↓fb_ow, ↓get_look, ↓ln_i, ↓sf_fr, ↓sf_ow, ↓mk_r, ↓w_var, ↓w_view, ↓w_lift, ↓w_frz, ↓w_m1, ↓w_m2, ↓w_mV2, ↓w_m2V, ↓w_tst, ↓w_isN, ↓w_notN, ↓bv_bl, ↓w_andV, ↓w_orV, ↓nv_bl, ↓w_notV, ↓w_ch, ↓pt_i, ↓w_part, ↓w_sl, ↓w_slV, ↓w_cal, ↓w_lenV, ↓w_is, ↓w_isO, ↓w_put, ↓w_set, ↓w_move, ↓w_seq, ↓w_asg, ↓w_app, ↓w_setI, ↓w_items, ↓w_gB, ↓w_rB, ↓w_cl, ↓w_callA, ↓w_gStar, ↓w_fld, ↓get_d1, ↓w_mth, ↓w_mthS, ↓w_prp, ↓w_lenO, ↓w_own2, ↓w_ownB, ↓w_augO, ↓w_setF, ↓w_fn, ↓w_mk, ↓w_arg, ↓w_any, ↓w_kw, ↓selR, ↓selA, ↓sQ_0, ↓sQ_s, ↓st_nx, ↓st_ct, ↓st_bk, ↓st_rt, ↓w_lc, ↓g_ixt, ↓g_ixl, ↓g_ixs, ↓at_0, ↓at_1, ↓at_2, ↓at_3, ↓ix_0, ↓ix_1, ↓ix_2, ↓g_addi, ↓g_adds, ↓g_addt, ↓g_addl, ↓g_muli, ↓g_mult, ↓g_mull, ↓g_sub, ↓g_div, ↓g_mod, ↓g_pow, ↓g_bD, ↓g_lt, ↓g_le, ↓g_gt, ↓g_ge, ↓g_neg, ↓g_bl, ↓g_int, ↓g_lent, ↓g_lenl, ↓g_lens, ↓g_list, ↓g_lisl, ↓g_tupt, ↓g_tupl, ↓g_max, ↓g_min, ↓g_itt, ↓g_itl, ↓g_its, ↓g_slt, ↓g_sll, ↓g_sls, ↓g_rng1, ↓g_rng2, ↓g_enum, ↓g_nm, ↓g_tp, ↓g_gc, ↓g_gn, ↓g_isIntD_non, ↓g_isIntD_bl, ↓g_isIntD_int, ↓g_isIntD_str, ↓g_isIntD_tup, ↓g_isIntD_lst, ↓g_isBoolD_non, ↓g_isBoolD_bl, ↓g_isBoolD_int, ↓g_isBoolD_str, ↓g_isBoolD_tup, ↓g_isBoolD_lst, ↓g_isTupD_non, ↓g_isTupD_bl, ↓g_isTupD_int, ↓g_isTupD_str, ↓g_isTupD_tup, ↓g_isTupD_lst, ↓g_isStrD_non, ↓g_isStrD_bl, ↓g_isStrD_int, ↓g_isStrD_str, ↓g_isStrD_tup, ↓g_isStrD_lst, ↓g_own_non, ↓g_own_bl, ↓g_own_int, ↓g_own_str, ↓g_own_tup, ↓g_own_lst, ↓g_own_ins, ↓g_eqi, ↓g_eqs, ↓g_nei, ↓g_nes, ↓p_bnd, ↓p_ret, ↓p_none, ↓p_fr, ↓p_and, ↓p_or, ↓p_not, ↓p_ifE, ↓p_bl, ↓p_nil, ↓p_cons, ↓p_tup, ↓p_lst, ↓p_drop, ↓p_rt, ↓p_mif, ↓p_for, ↓p_gNil, ↓p_gV, ↓p_gApp, ↓p_rV, ↓p_if, cs_un, cs_fr, List.length_cons, List.length_nil, List.length_map, Nat.zero_add, insD_i, decide_eq_true_eq, Bool.not_eq_true', Bool.not_true, Bool.not_false, decide_eq_false_iff_not, true_and, and_true, ne_eq, not_false_eq_true, List.lookup_cons, Nat.reduceAdd, isN_non, isN_bl, isN_int, isN_str, isN_tup, isN_lst, ↓reduceIte]
  rw [if_pos h0]
  simp (decide := true) only [h1, ↓k_some, ↓k_no, ↓k_ite, ↓getK_0, ↓getK_s, ↓setK_0, ↓setK_s, ↓ff_0, ↓ff_s, ↓ff_o, ↓fo_l, ↓fo_i, ↓fk_fr, ↓fk_ow, ↓vk_fr, ↓vk_ow, ↓vw_fr, ↓vw_l, ↓mv_fr, ↓mv_ow, ↓sq_nx, ↓sq_bk, ↓sq_ct, ↓sq_rt, ↓fi_rt, ↓fi_nx, ↓ou_0, ↓ou_fr, ↓ou_ow, ↓ou_un, ↓ou_of, ↓ou_on, ↓un_00, ↓un_0s, ↓un_s, ↓rk_fr, ↓rk_un, ↓rk_ow, ↓ak_l, ↓lk_l, ↓si_l, ↓ls_0, ↓ls_s, ↓gb_fr, ↓gb_ow, ↓rb_fr, ↓rb_ow, ↓to_0, ↓to_v, ↓to_b, ↓to_map, ↓to_mapn, ↓tb_fr, ↓tb_ow, ↓bk_0, ↓bk_v, ↓bk_bi, ↓ba_0, ↓ba_s, ↓bk_mapf, ↓bk_mapn, ↓bb_fr, ↓bb_ow, ↓ui_un, ↓set_tag, ↓set_tagf, ↓df_0, ↓sp_0, ↓sp_n, ↓sp_s, ↓fs_0, ↓fs_s, ↓fs_map, ↓ct_0, ↓ct_fr, ↓ct_un, ↓ct_ow, ↓ap_00, ↓ap_0s, ↓ap_s, ↓as_0, ↓as_s, ↓in_v, ↓in_b, ↓ib_fr, ↓ib_ow, ↓fl_v, ↓fr_fd, ↓fl_b, ↓fb_fr, ↓fb_ow, ↓get_look, ↓ln_i, ↓sf_fr, ↓sf_ow, ↓mk_r, ↓w_var, ↓w_view, ↓w_lift, ↓w_frz, ↓w_m1, ↓w_m2, ↓w_mV2, ↓w_m2V, ↓w_tst, ↓w_isN, ↓w_notN, ↓bv_bl, ↓w_andV, ↓w_orV, ↓nv_bl, ↓w_notV, ↓w_ch, ↓pt_i, ↓w_part, ↓w_sl, ↓w_slV, ↓w_cal, ↓w_lenV, ↓w_is, ↓w_isO, ↓w_put, ↓w_set, ↓w_move, ↓w_seq, ↓w_asg, ↓w_app, ↓w_setI, ↓w_items, ↓w_gB, ↓w_rB, ↓w_cl, ↓w_callA, ↓w_gStar, ↓w_fld, ↓get_d1, ↓w_mth, ↓w_mthS, ↓w_prp, ↓w_lenO, ↓w_own2, ↓w_ownB, ↓w_augO, ↓w_setF, ↓w_fn, ↓w_mk, ↓w_arg, ↓w_any, ↓w_kw, ↓selR, ↓selA, ↓sQ_0, ↓sQ_s, ↓st_nx, ↓st_ct, ↓st_bk, ↓st_rt, ↓w_lc, ↓g_ixt, ↓g_ixl, ↓g_ixs, ↓at_0, ↓at_1, ↓at_2, ↓at_3, ↓ix_0, ↓ix_1, ↓ix_2, ↓g_addi, ↓g_adds, ↓g_addt, ↓g_addl, ↓g_muli, ↓g_mult, ↓g_mull, ↓g_sub, ↓g_div, ↓g_mod, ↓g_pow, ↓g_bD, ↓g_lt, ↓g_le, ↓g_gt, ↓g_ge, ↓g_neg, ↓g_bl, ↓g_int, ↓g_lent, ↓g_lenl, ↓g_lens, ↓g_list, ↓g_lisl, ↓g_tupt, ↓g_tupl, ↓g_max, ↓g_min, ↓g_itt, ↓g_itl, ↓g_its, ↓g_slt, ↓g_sll, ↓g_sls, ↓g_rng1, ↓g_rng2, ↓g_enum, ↓g_nm, ↓g_tp, ↓g_gc, ↓g_gn, ↓g_isIntD_non, ↓g_isIntD_bl, ↓g_isIntD_int, ↓g_isIntD_str, ↓g_isIntD_tup, ↓g_isIntD_lst, ↓g_isBoolD_non, ↓g_isBoolD_bl, ↓g_isBoolD_int, ↓g_isBoolD_str, ↓g_isBoolD_tup, ↓g_isBoolD_lst, ↓g_isTupD_non, ↓g_isTupD_bl, ↓g_isTupD_int, ↓g_isTupD_str, ↓g_isTupD_tup, ↓g_isTupD_lst, ↓g_isStrD_non, ↓g_isStrD_bl, ↓g_isStrD_int, ↓g_isStrD_str, ↓g_isStrD_tup, ↓g_isStrD_lst, ↓g_own_non, ↓g_own_bl, ↓g_own_int, ↓g_own_str, ↓g_own_tup, ↓g_own_lst, ↓g_own_ins, ↓g_eqi, ↓g_eqs, ↓g_nei, ↓g_nes, ↓p_bnd, ↓p_ret, ↓p_none, ↓p_fr, ↓p_and, ↓p_or, ↓p_not, ↓p_ifE, ↓p_bl, ↓p_nil, ↓p_cons, ↓p_tup, ↓p_lst, ↓p_drop, ↓p_rt, ↓p_mif, ↓p_for, ↓p_gNil, ↓p_gV, ↓p_gApp, ↓p_rV, ↓p_if, cs_un, cs_fr, List.length_cons, List.length_nil, List.length_map, Nat.zero_add, insD_i, decide_eq_true_eq, Bool.not_eq_true', Bool.not_true, Bool.not_false, decide_eq_false_iff_not, true_and, and_true, ne_eq, not_false_eq_true, List.lookup_cons, Nat.reduceAdd, isN_non, isN_bl, isN_int, isN_str, isN_tup, isN_lst, ↓reduceIte]
  exact h
theorem wthere_spec {t : List D} {ws : List Int} {Q : Sl → List Sl → Prop} (hw : Wishes t.length ws) (h : Q (.fr (.bl true)) [.fr (.tup t), .fr (.tup (ws.map .int))]) : PostF (f_wishes_there Z) [.fr (.tup t), .fr (.tup (ws.map .int))] Q := by
  unfold f_wishes_there b_wishes_there
  simp (decide := true) only [↓k_some, ↓k_no, ↓k_ite, ↓getK_0, ↓getK_s, ↓setK_0, ↓setK_s, ↓ff_0, ↓ff_s, ↓ff_o, ↓fo_l, ↓fo_i, ↓fk_fr, ↓fk_ow, ↓vk_fr, ↓vk_ow, ↓vw_fr, ↓vw_l, ↓mv_fr, ↓mv_ow, ↓sq_nx, ↓sq_bk, ↓sq_ct, ↓sq_rt, ↓fi_rt, ↓fi_nx, ↓ou_0, ↓ou_fr, ↓ou_ow, ↓ou_un, ↓ou_of, ↓ou_on, ↓un_00, ↓un_0s, ↓un_s, ↓rk_fr, ↓rk_un, ↓rk_ow, ↓ak_l, ↓lk_l, ↓si_l, ↓ls_0, ↓ls_s, ↓gb_fr, ↓gb_ow, ↓rb_fr, ↓rb_ow, ↓to_0, ↓to_v, ↓to_b, ↓to_map, ↓to_mapn, ↓tb_fr, ↓tb_ow, ↓bk_0, ↓bk_v, ↓bk_bi, ↓ba_0, ↓ba_s, ↓bk_mapf, ↓bk_mapn, ↓bb_fr, ↓bb_ow, ↓ui_un, ↓set_tag, ↓set_tagf, ↓df_0, ↓sp_0, ↓sp_n, ↓sp_s, ↓fs_0, ↓fs_s, ↓fs_map, ↓ct_0, ↓ct_fr, ↓ct_un, ↓ct_ow, ↓ap_00, ↓ap_0s, ↓ap_s, ↓as_0, ↓as_s, ↓in_v, ↓in_b, ↓ib_fr, ↓ib_ow, ↓fl_v, ↓fr_fd, ↓fl_b, ↓fb_fr, ↓fb_ow, ↓get_look, ↓ln_i, ↓sf_fr, ↓sf_ow, ↓mk_r, ↓w_var, ↓w_view, ↓w_lift, ↓w_frz, ↓w_m1, ↓w_m2, ↓w_mV2, ↓w_m2V, ↓w_tst, ↓w_isN, ↓w_notN, ↓bv_bl, ↓w_andV, ↓w_orV, ↓nv_bl, ↓w_notV, ↓w_ch, ↓pt_i, ↓w_part, ↓w_sl, ↓w_slV, ↓w_cal, ↓w_lenV, ↓w_is, ↓w_isO, ↓w_put, ↓w_set, ↓w_move, ↓w_seq, ↓w_asg, ↓w_app, ↓w_setI, ↓w_items, ↓w_gB, ↓w_rB, ↓w_cl, ↓w_callA, ↓w_gStar, ↓w_fld, ↓get_d1, ↓w_mth, ↓w_mthS, ↓w_prp, ↓w_lenO, ↓w_own2, ↓w_ownB, ↓w_augO, ↓w_setF, ↓w_fn, ↓w_mk, ↓w_arg, ↓w_any, ↓w_kw, ↓selR, ↓selA, ↓sQ_0, ↓sQ_s, ↓st_nx, ↓st_ct, ↓st_bk, ↓st_rt, ↓w_lc, ↓g_ixt, ↓g_ixl, ↓g_ixs, ↓at_0, ↓at_1, ↓at_2, ↓at_3, ↓ix_0, ↓ix_1, ↓ix_2, ↓g_addi, ↓g_adds, ↓g_addt, ↓g_addl, ↓g_muli, ↓g_mult, ↓g_mull, ↓g_sub, ↓g_div, ↓g_mod, ↓g_pow, ↓g_bD, ↓g_lt, ↓g_le, ↓g_gt, ↓g_ge, ↓g_neg, ↓g_bl, ↓g_int, ↓g_lent, ↓g_lenl, ↓g_lens, ↓g_list, ↓g_lisl, ↓g_tupt, ↓g_tupl, ↓g_max, ↓g_min, ↓g_itt, ↓g_itl, ↓g_its, ↓g_slt, ↓g_sll, ↓g_sls, ↓g_rng1, ↓g_rng2, ↓g_enum, ↓g_nm, ↓g_tp, ↓g_gc, ↓g_gn, ↓g_isIntD_non, ↓g_isIntD_bl, ↓g_isIntD_int, ↓g_isIntD_str, ↓g_isIntD_tup, ↓g_isIntD_lst, ↓g_isBoolD_non, ↓g_isBoolD_bl, ↓g_isBoolD_int, ↓g_isBoolD_str, ↓g_isBoolD_tup, ↓g_isBoolD_lst, ↓g_isTupD_non, ↓g_isTupD_bl, ↓g_isTupD_int, ↓g_isTupD_str, ↓g_isTupD_tup, ↓g_isTupD_lst, ↓g_isStrD_non, ↓g_isStrD_bl, ↓g_isStrD_int, ↓g_isStrD_str, ↓g_isStrD_tup, ↓g_isStrD_lst, ↓g_own_non, ↓g_own_bl, ↓g_own_int, ↓g_own_str, ↓g_own_tup, ↓g_own_lst, ↓g_own_ins, ↓g_eqi, ↓g_eqs, ↓g_nei, ↓g_nes, ↓p_bnd, ↓p_ret, ↓p_none, ↓p_fr, ↓p_and, ↓p_or, ↓p_not, ↓p_ifE, ↓p_bl, ↓p_nil, ↓p_cons, ↓p_tup, ↓p_lst, ↓p_drop, ↓p_rt, ↓p_mif, ↓p_for, ↓p_gNil, ↓p_gV, ↓p_gApp, ↓p_rV, ↓p_if, cs_un, cs_fr, List.length_cons, List.length_nil, List.length_map, Nat.zero_add, insD_i, decide_eq_true_eq, Bool.not_eq_true', Bool.not_true, Bool.not_false, decide_eq_false_iff_not, true_and, and_true, ne_eq, not_false_eq_true, List.lookup_cons, Nat.reduceAdd, isN_non, isN_bl, isN_int, isN_str, isN_tup, isN_lst, ↓reduceIte]
  refine for_inv (fun i a => ∃ x : Sl, a = [.fr (.tup t), .fr (.tup (ws.map .int)), x]) ⟨.un, rfl⟩ (fun i d a hd hI => ?_) (fun a hI => ?_)
  · obtain ⟨x, rfl⟩ := hI
    rw [List.getElem?_map] at hd
    obtain ⟨m, em, rfl⟩ := Option.map_eq_some_iff.mp hd
    obtain ⟨u1, u2⟩ := hw m (List.mem_of_getElem? em)
    simp (decide := true) only [↓k_some, ↓k_no, ↓k_ite, ↓getK_0, ↓getK_s, ↓setK_0, ↓setK_s, ↓ff_0, ↓ff_s, ↓ff_o, ↓fo_l, ↓fo_i, ↓fk_fr, ↓fk_ow, ↓vk_fr, ↓vk_ow, ↓vw_fr, ↓vw_l, ↓mv_fr, ↓mv_ow, ↓sq_nx, ↓sq_bk, ↓sq_ct, ↓sq_rt, ↓fi_rt, ↓fi_nx, ↓ou_0, ↓ou_fr, ↓ou_ow, ↓ou_un, ↓ou_of, ↓ou_on, ↓un_00, ↓un_0s, ↓un_s, ↓rk_fr, ↓rk_un, ↓rk_ow, ↓ak_l, ↓lk_l, ↓si_l, ↓ls_0, ↓ls_s, ↓gb_fr, ↓gb_ow, ↓rb_fr, ↓rb_ow, ↓to_0, ↓to_v, ↓to_b, ↓to_map, ↓to_mapn, ↓tb_fr, ↓tb_ow, ↓bk_0, ↓bk_v, ↓bk_bi, ↓ba_0, ↓ba_s, ↓bk_mapf, ↓bk_mapn, ↓bb_fr, ↓bb_ow, ↓ui_un, ↓set_tag, ↓set_tagf, ↓df_0, ↓sp_0, ↓sp_n, ↓sp_s, ↓fs_0, ↓fs_s, ↓fs_map, ↓ct_0, ↓ct_fr, ↓ct_un, ↓ct_ow, ↓ap_00, ↓ap_0s, ↓ap_s, ↓as_0, ↓as_s, ↓in_v, ↓in_b, ↓ib_fr, ↓ib_ow, ↓fl_v, ↓fr_fd, ↓fl_b, ↓fb_fr, ↓fb_ow, ↓get_look, ↓ln_i, ↓sf_fr, ↓sf_ow, ↓mk_r, ↓w_var, ↓w_view, ↓w_lift, ↓w_frz, ↓w_m1, ↓w_m2, ↓w_mV2, ↓w_m2V, ↓w_tst, ↓w_isN, ↓w_notN, ↓bv_bl, ↓w_andV, ↓w_orV, ↓nv_bl, ↓w_notV, ↓w_ch, ↓pt_i, ↓w_part, ↓w_sl, ↓w_slV, ↓w_cal, ↓w_lenV, ↓w_is, ↓w_isO, ↓w_put, ↓w_set, ↓w_move, ↓w_seq, ↓w_asg, ↓w_app, ↓w_setI, ↓w_items, ↓w_gB, ↓w_rB, ↓w_cl, ↓w_callA, ↓w_gStar, ↓w_fld, ↓get_d1, ↓w_mth, ↓w_mthS, ↓w_prp, ↓w_lenO, ↓w_own2, ↓w_ownB, ↓w_augO, ↓w_setF, ↓w_fn, ↓w_mk, ↓w_arg, ↓w_any, ↓w_kw, ↓selR, ↓selA, ↓sQ_0, ↓sQ_s, ↓st_nx, ↓st_ct, ↓st_bk, ↓st_rt, ↓w_lc, ↓g_ixt, ↓g_ixl, ↓g_ixs, ↓at_0, ↓at_1, ↓at_2, ↓at_3, ↓ix_0, ↓ix_1, ↓ix_2, ↓g_addi, ↓g_adds, ↓g_addt, ↓g_addl, ↓g_muli, ↓g_mult, ↓g_mull, ↓g_sub, ↓g_div, ↓g_mod, ↓g_pow, ↓g_bD, ↓g_lt, ↓g_le, ↓g_gt, ↓g_ge, ↓g_neg, ↓g_bl, ↓g_int, ↓g_lent, ↓g_lenl, ↓g_lens, ↓g_list, ↓g_lisl, ↓g_tupt, ↓g_tupl, ↓g_max, ↓g_min, ↓g_itt, ↓g_itl, ↓g_its, ↓g_slt, ↓g_sll, ↓g_sls, ↓g_rng1, ↓g_rng2, ↓g_enum, ↓g_nm, ↓g_tp, ↓g_gc, ↓g_gn, ↓g_isIntD_non, ↓g_isIntD_bl, ↓g_isIntD_int, ↓g_isIntD_str, ↓g_isIntD_tup, ↓g_isIntD_lst, ↓g_isBoolD_non, ↓g_isBoolD_bl, ↓g_isBoolD_int, ↓g_isBoolD_str, ↓g_isBoolD_tup, ↓g_isBoolD_lst, ↓g_isTupD_non, ↓g_isTupD_bl, ↓g_isTupD_int, ↓g_isTupD_str, ↓g_isTupD_tup, ↓g_isTupD_lst, ↓g_isStrD_non, ↓g_isStrD_bl, ↓g_isStrD_int, ↓g_isStrD_str, ↓g_isStrD_tup, ↓g_isStrD_lst, ↓g_own_non, ↓g_own_bl, ↓g_own_int, ↓g_own_str, ↓g_own_tup, ↓g_own_lst, ↓g_own_ins, ↓g_eqi, ↓g_eqs, ↓g_nei, ↓g_nes, ↓p_bnd, ↓p_ret, ↓p_none, ↓p_fr, ↓p_and, ↓p_or, ↓p_not, ↓p_ifE, ↓p_bl, ↓p_nil, ↓p_cons, ↓p_tup, ↓p_lst, ↓p_drop, ↓p_rt, ↓p_mif, ↓p_for, ↓p_gNil, ↓p_gV, ↓p_gApp, ↓p_rV, ↓p_if, cs_un, cs_fr, List.length_cons, List.length_nil, List.length_map, Nat.zero_add, insD_i, decide_eq_true_eq, Bool.not_eq_true', Bool.not_true, Bool.not_false, decide_eq_false_iff_not, true_and, and_true, ne_eq, not_false_eq_true, List.lookup_cons, Nat.reduceAdd, isN_non, isN_bl, isN_int, isN_str, isN_tup, isN_lst, ↓reduceIte]
    refine there_spec u1 u2 ?_
    simp (decide := true) only [↓k_some, ↓k_no, ↓k_ite, ↓getK_0, ↓getK_s, ↓setK_0, ↓setK_s, ↓ff_0, ↓ff_s, ↓ff_o, ↓fo_l, ↓fo_i, ↓fk_fr, ↓fk_ow, ↓vk_fr, ↓vk_ow, ↓vw_fr, ↓vw_l, ↓mv_fr, ↓mv_ow, ↓sq_nx, ↓sq_bk, ↓sq_ct, ↓sq_rt, ↓fi_rt, ↓fi_nx, ↓ou_0, ↓ou_fr, ↓ou_ow, ↓ou_un, ↓ou_of, ↓ou_on, ↓un_00, ↓un_0s, ↓un_s, ↓rk_fr, ↓rk_un, ↓rk_ow, ↓ak_l, ↓lk_l, ↓si_l, ↓ls_0, ↓ls_s, ↓gb_fr, ↓gb_ow, ↓rb_fr, ↓rb_ow, ↓to_0, ↓to_v, ↓to_b, ↓to_map, ↓to_mapn, ↓tb_fr, ↓tb_ow, ↓bk_0, ↓bk_v, ↓bk_bi, ↓ba_0, ↓ba_s, ↓bk_mapf, ↓bk_mapn, ↓bb_fr, ↓bb_ow, ↓ui_un, ↓set_tag, ↓set_tagf, ↓df_0, ↓sp_0, ↓sp_n, ↓sp_s, ↓fs_0, ↓fs_s, ↓fs_map, ↓ct_0, ↓ct_fr, ↓ct_un, ↓ct_ow, ↓ap_00, ↓ap_0s, ↓ap_s, ↓as_0, ↓as_s, ↓in_v, ↓in_b, ↓ib_fr, ↓ib_ow, ↓fl_v, ↓fr_fd, ↓fl_b, ↓fb_fr, ↓fb_ow, ↓get_look, ↓ln_i, ↓sf_fr, ↓sf_ow, ↓mk_r, ↓w_var, ↓w_view, ↓w_lift, ↓w_frz, ↓w_m1, ↓w_m2, ↓w_mV2, ↓w_m2V, ↓w_tst, ↓w_isN, ↓w_notN, ↓bv_bl, ↓w_andV, ↓w_orV, ↓nv_bl, ↓w_notV, ↓w_ch, ↓pt_i, ↓w_part, ↓w_sl, ↓w_slV, ↓w_cal, ↓w_lenV, ↓w_is, ↓w_isO, ↓w_put, ↓w_set, ↓w_move, ↓w_seq, ↓w_asg, ↓w_app, ↓w_setI, ↓w_items, ↓w_gB, ↓w_rB, ↓w_cl, ↓w_callA, ↓w_gStar, ↓w_fld, ↓get_d1, ↓w_mth, ↓w_mthS, ↓w_prp, ↓w_lenO, ↓w_own2, ↓w_ownB, ↓w_augO, ↓w_setF, ↓w_fn, ↓w_mk, ↓w_arg, ↓w_any, ↓w_kw, ↓selR, ↓selA, ↓sQ_0, ↓sQ_s, ↓st_nx, ↓st_ct, ↓st_bk, ↓st_rt, ↓w_lc, ↓g_ixt, ↓g_ixl, ↓g_ixs, ↓at_0, ↓at_1, ↓at_2, ↓at_3, ↓ix_0, ↓ix_1, ↓ix_2, ↓g_addi, ↓g_adds, ↓g_addt, ↓g_addl, ↓g_muli, ↓g_mult, ↓g_mull, ↓g_sub, ↓g_div, ↓g_mod, ↓g_pow, ↓g_bD, ↓g_lt, ↓g_le, ↓g_gt, ↓g_ge, ↓g_neg, ↓g_bl, ↓g_int, ↓g_lent, ↓g_lenl, ↓g_lens, ↓g_list, ↓g_lisl, ↓g_tupt, ↓g_tupl, ↓g_max, ↓g_min, ↓g_itt, ↓g_itl, ↓g_its, ↓g_slt, ↓g_sll, ↓g_sls, ↓g_rng1, ↓g_rng2, ↓g_enum, ↓g_nm, ↓g_tp, ↓g_gc, ↓g_gn, ↓g_isIntD_non, ↓g_isIntD_bl, ↓g_isIntD_int, ↓g_isIntD_str, ↓g_isIntD_tup, ↓g_isIntD_lst, ↓g_isBoolD_non, ↓g_isBoolD_bl, ↓g_isBoolD_int, ↓g_isBoolD_str, ↓g_isBoolD_tup, ↓g_isBoolD_lst, ↓g_isTupD_non, ↓g_isTupD_bl, ↓g_isTupD_int, ↓g_isTupD_str, ↓g_isTupD_tup, ↓g_isTupD_lst, ↓g_isStrD_non, ↓g_isStrD_bl, ↓g_isStrD_int, ↓g_isStrD_str, ↓g_isStrD_tup, ↓g_isStrD_lst, ↓g_own_non, ↓g_own_bl, ↓g_own_int, ↓g_own_str, ↓g_own_tup, ↓g_own_lst, ↓g_own_ins, ↓g_eqi, ↓g_eqs, ↓g_nei, ↓g_nes, ↓p_bnd, ↓p_ret, ↓p_none, ↓p_fr, ↓p_and, ↓p_or, ↓p_not, ↓p_ifE, ↓p_bl, ↓p_nil, ↓p_cons, ↓p_tup, ↓p_lst, ↓p_drop, ↓p_rt, ↓p_mif, ↓p_for, ↓p_gNil, ↓p_gV, ↓p_gApp, ↓p_rV, ↓p_if, cs_un, cs_fr, List.length_cons, List.length_nil, List.length_map, Nat.zero_add, insD_i, decide_eq_true_eq, Bool.not_eq_true', Bool.not_true, Bool.not_false, decide_eq_false_iff_not, true_and, and_true, ne_eq, not_false_eq_true, List.lookup_cons, Nat.reduceAdd, isN_non, isN_bl, isN_int, isN_str, isN_tup, isN_lst, ↓reduceIte]
    exact ⟨_, rfl⟩
  · obtain ⟨x, rfl⟩ := hI
    simp (decide := true) only [↓k_some, ↓k_no, ↓k_ite, ↓getK_0, ↓getK_s, ↓setK_0, ↓setK_s, ↓ff_0, ↓ff_s, ↓ff_o, ↓fo_l, ↓fo_i, ↓fk_fr, ↓fk_ow, ↓vk_fr, ↓vk_ow, ↓vw_fr, ↓vw_l, ↓mv_fr, ↓mv_ow, ↓sq_nx, ↓sq_bk, ↓sq_ct, ↓sq_rt, ↓fi_rt, ↓fi_nx, ↓ou_0, ↓ou_fr, ↓ou_ow, ↓ou_un, ↓ou_of, ↓ou_on, ↓un_00, ↓un_0s, ↓un_s, ↓rk_fr, ↓rk_un, ↓rk_ow, ↓ak_l, ↓lk_l, ↓si_l, ↓ls_0, ↓ls_s, ↓gb_fr, ↓gb_ow, ↓rb_fr, ↓rb_ow, ↓to_0, ↓to_v, ↓to_b, ↓to_map, ↓to_mapn, ↓tb_fr, ↓tb_ow, ↓bk_0, ↓bk_v, ↓bk_bi, ↓ba_0, ↓ba_s, ↓bk_mapf, ↓bk_mapn, ↓bb_fr, ↓bb_ow, ↓ui_un, ↓set_tag, ↓set_tagf, ↓df_0, ↓sp_0, ↓sp_n, ↓sp_s, ↓fs_0, ↓fs_s, ↓fs_map, ↓ct_0, ↓ct_fr, ↓ct_un, ↓ct_ow, ↓ap_00, ↓ap_0s, ↓ap_s, ↓as_0, ↓as_s, ↓in_v, ↓in_b, ↓ib_fr, ↓ib_ow, ↓fl_v, ↓fr_fd, ↓fl_b, ↓fb_fr, ↓fb_ow, ↓get_look, ↓ln_i, ↓sf_fr, ↓sf_ow, ↓mk_r, ↓w_var, ↓w_view, ↓w_lift, ↓w_frz, ↓w_m1, ↓w_m2, ↓w_mV2, ↓w_m2V, ↓w_tst, ↓w_isN, ↓w_notN, ↓bv_bl, ↓w_andV, ↓w_orV, ↓nv_bl, ↓w_notV, ↓w_ch, ↓pt_i, ↓w_part, ↓w_sl, ↓w_slV, ↓w_cal, ↓w_lenV, ↓w_is, ↓w_isO, ↓w_put, ↓w_set, ↓w_move, ↓w_seq, ↓w_asg, ↓w_app, ↓w_setI, ↓w_items, ↓w_gB, ↓w_rB, ↓w_cl, ↓w_callA, ↓w_gStar, ↓w_fld, ↓get_d1, ↓w_mth, ↓w_mthS, ↓w_prp, ↓w_lenO, ↓w_own2, ↓w_ownB, ↓w_augO, ↓w_setF, ↓w_fn, ↓w_mk, ↓w_arg, ↓w_any, ↓w_kw, ↓selR, ↓selA, ↓sQ_0, ↓sQ_s, ↓st_nx, ↓st_ct, ↓st_bk, ↓st_rt, ↓w_lc, ↓g_ixt, ↓g_ixl, ↓g_ixs, ↓at_0, ↓at_1, ↓at_2, ↓at_3, ↓ix_0, ↓ix_1, ↓ix_2, ↓g_addi, ↓g_adds, ↓g_addt, ↓g_addl, ↓g_muli, ↓g_mult, ↓g_mull, ↓g_sub, ↓g_div, ↓g_mod, ↓g_pow, ↓g_bD, ↓g_lt, ↓g_le, ↓g_gt, ↓g_ge, ↓g_neg, ↓g_bl, ↓g_int, ↓g_lent, ↓g_lenl, ↓g_lens, ↓g_list, ↓g_lisl, ↓g_tupt, ↓g_tupl, ↓g_max, ↓g_min, ↓g_itt, ↓g_itl, ↓g_its, ↓g_slt, ↓g_sll, ↓g_sls, ↓g_rng1, ↓g_rng2, ↓g_enum, ↓g_nm, ↓g_tp, ↓g_gc, ↓g_gn, ↓g_isIntD_non, ↓g_isIntD_bl, ↓g_isIntD_int, ↓g_isIntD_str, ↓g_isIntD_tup, ↓g_isIntD_lst, ↓g_isBoolD_non, ↓g_isBoolD_bl, ↓g_isBoolD_int, ↓g_isBoolD_str, ↓g_isBoolD_tup, ↓g_isBoolD_lst, ↓g_isTupD_non, ↓g_isTupD_bl, ↓g_isTupD_int, ↓g_isTupD_str, ↓g_isTupD_tup, ↓g_isTupD_lst, ↓g_isStrD_non, ↓g_isStrD_bl, ↓g_isStrD_int, ↓g_isStrD_str, ↓g_isStrD_tup, ↓g_isStrD_lst, ↓g_own_non, ↓g_own_bl, ↓g_own_int, ↓g_own_str, ↓g_own_tup, ↓g_own_lst, ↓g_own_ins, ↓g_eqi, ↓g_eqs, ↓g_nei, ↓g_nes, ↓p_bnd, ↓p_ret, ↓p_none, ↓p_fr, ↓p_and, ↓p_or, ↓p_not, ↓p_ifE, ↓p_bl, ↓p_nil, ↓p_cons, ↓p_tup, ↓p_lst, ↓p_drop, ↓p_rt, ↓p_mif, ↓p_for, ↓p_gNil, ↓p_gV, ↓p_gApp, ↓p_rV, ↓p_if, cs_un, cs_fr, List.length_cons, List.length_nil, List.length_map, Nat.zero_add, insD_i, decide_eq_true_eq, Bool.not_eq_true', Bool.not_true, Bool.not_false, decide_eq_false_iff_not, true_and, and_true, ne_eq, not_false_eq_true, List.lookup_cons, Nat.reduceAdd, isN_non, isN_bl, isN_int, isN_str, isN_tup, isN_lst, ↓reduceIte]
    exact h
theorem iswishes_spec {t : List D} {ws : List Int} {Q : Sl → List Sl → Prop} (ht : IsTree t) (hw : Wishes t.length ws) (h : Q (.fr (.bl true)) [.fr (.tup t), .fr (.tup (ws.map .int))]) : PostF (f_is_wishes Z) [.fr (.tup t), .fr (.tup (ws.map .int))] Q := by
  unfold f_is_wishes b_is_wishes
  simp (decide := true) only [↓k_some, ↓k_no, ↓k_ite, ↓getK_0, ↓getK_s, ↓setK_0, ↓setK_s, ↓ff_0, ↓ff_s, ↓ff_o, ↓fo_l, ↓fo_i, ↓fk_fr, ↓fk_ow, ↓vk_fr, ↓vk_ow, ↓vw_fr, ↓vw_l, ↓mv_fr, ↓mv_ow, ↓sq_nx, ↓sq_bk, ↓sq_ct, ↓sq_rt, ↓fi_rt, ↓fi_nx, ↓ou_0, ↓ou_fr, ↓ou_ow, ↓ou_un, ↓ou_of, ↓ou_on, ↓un_00, ↓un_0s, ↓un_s, ↓rk_fr, ↓rk_un, ↓rk_ow, ↓ak_l, ↓lk_l, ↓si_l, ↓ls_0, ↓ls_s, ↓gb_fr, ↓gb_ow, ↓rb_fr, ↓rb_ow, ↓to_0, ↓to_v, ↓to_b, ↓to_map, ↓to_mapn, ↓tb_fr, ↓tb_ow, ↓bk_0, ↓bk_v, ↓bk_bi, ↓ba_0, ↓ba_s, ↓bk_mapf, ↓bk_mapn, ↓bb_fr, ↓bb_ow, ↓ui_un, ↓set_tag, ↓set_tagf, ↓df_0, ↓sp_0, ↓sp_n, ↓sp_s, ↓fs_0, ↓fs_s, ↓fs_map, ↓ct_0, ↓ct_fr, ↓ct_un, ↓ct_ow, ↓ap_00, ↓ap_0s, ↓ap_s, ↓as_0, ↓as_s, ↓in_v, ↓in_b, ↓ib_fr, ↓ib_ow, ↓fl_v, ↓fr_fd, ↓fl_b, ↓fb_fr, ↓fb_ow, ↓get_look, ↓ln_i, ↓sf_fr, ↓sf_ow, ↓mk_r, ↓w_var, ↓w_view, ↓w_lift, ↓w_frz, ↓w_m1, ↓w_m2, ↓w_mV2, ↓w_m2V, ↓w_tst, ↓w_isN, ↓w_notN, ↓bv_bl, ↓w_andV, ↓w_orV, ↓nv_bl, ↓w_notV, ↓w_ch, ↓pt_i, ↓w_part, ↓w_sl, ↓w_slV, ↓w_cal, ↓w_lenV, ↓w_is, ↓w_isO, ↓w_put, ↓w_set, ↓w_move, ↓w_seq, ↓w_asg, ↓w_app, ↓w_setI, ↓w_items, ↓w_gB, ↓w_rB, ↓w_cl, ↓w_callA, ↓w_gStar, ↓w_fld, ↓get_d1, ↓w_mth, ↓w_mthS, ↓w_prp, ↓w_lenO, ↓w_own2, ↓w_ownB, ↓w_augO, ↓w_setF, ↓w_fn, ↓w_mk, ↓w_arg, ↓w_any, ↓w_kw, ↓selR, ↓selA, ↓sQ_0, ↓sQ_s, ↓st_nx, ↓st_ct, ↓st_bk, ↓st_rt, ↓w_lc, ↓g_ixt, ↓g_ixl, ↓g_ixs, ↓at_0, ↓at_1, ↓at_2, ↓at_3, ↓ix_0, ↓ix_1, ↓ix_2, ↓g_addi, ↓g_adds, ↓g_addt, ↓g_addl, ↓g_muli, ↓g_mult, ↓g_mull, ↓g_sub, ↓g_div, ↓g_mod, ↓g_pow, ↓g_bD, ↓g_lt, ↓g_le, ↓g_gt, ↓g_ge, ↓g_neg, ↓g_bl, ↓g_int, ↓g_lent, ↓g_lenl, ↓g_lens, ↓g_list, ↓g_lisl, ↓g_tupt, ↓g_tupl, ↓g_max, ↓g_min, ↓g_itt, ↓g_itl, ↓g_its, ↓g_slt, ↓g_sll, ↓g_sls, ↓g_rng1, ↓g_rng2, ↓g_enum, ↓g_nm, ↓g_tp, ↓g_gc, ↓g_gn, ↓g_isIntD_non, ↓g_isIntD_bl, ↓g_isIntD_int, ↓g_isIntD_str, ↓g_isIntD_tup, ↓g_isIntD_lst, ↓g_isBoolD_non, ↓g_isBoolD_bl, ↓g_isBoolD_int, ↓g_isBoolD_str, ↓g_isBoolD_tup, ↓g_isBoolD_lst, ↓g_isTupD_non, ↓g_isTupD_bl, ↓g_isTupD_int, ↓g_isTupD_str, ↓g_isTupD_tup, ↓g_isTupD_lst, ↓g_isStrD_non, ↓g_isStrD_bl, ↓g_isStrD_int, ↓g_isStrD_str, ↓g_isStrD_tup, ↓g_isStrD_lst, ↓g_own_non, ↓g_own_bl, ↓g_own_int, ↓g_own_str, ↓g_own_tup, ↓g_own_lst, ↓g_own_ins, ↓g_eqi, ↓g_eqs, ↓g_nei, ↓g_nes, ↓p_bnd, ↓p_ret, ↓p_none, ↓p_fr, ↓p_and, ↓p_or, ↓p_not, ↓p_ifE, ↓p_bl, ↓p_nil, ↓p_cons, ↓p_tup, ↓p_lst, ↓p_drop, ↓p_rt, ↓p_mif, ↓p_for, ↓p_gNil, ↓p_gV, ↓p_gApp, ↓p_rV, ↓p_if, cs_un, cs_fr, List.length_cons, List.length_nil, List.length_map, Nat.zero_add, insD_i, decide_eq_true_eq, Bool.not_eq_true', Bool.not_true, Bool.not_false, decide_eq_false_iff_not, true_and, and_true, ne_eq, not_false_eq_true, List.lookup_cons, Nat.reduceAdd, isN_non, isN_bl, isN_int, isN_str, isN_tup, isN_lst, ↓reduceIte]
  refine need_tree_spec ht ?_
  simp (decide := true) only [↓k_some, ↓k_no, ↓k_ite, ↓getK_0, ↓getK_s, ↓setK_0, ↓setK_s, ↓ff_0, ↓ff_s, ↓ff_o, ↓fo_l, ↓fo_i, ↓fk_fr, ↓fk_ow, ↓vk_fr, ↓vk_ow, ↓vw_fr, ↓vw_l, ↓mv_fr, ↓mv_ow, ↓sq_nx, ↓sq_bk, ↓sq_ct, ↓sq_rt, ↓fi_rt, ↓fi_nx, ↓ou_0, ↓ou_fr, ↓ou_ow, ↓ou_un, ↓ou_of, ↓ou_on, ↓un_00, ↓un_0s, ↓un_s, ↓rk_fr, ↓rk_un, ↓rk_ow, ↓ak_l, ↓lk_l, ↓si_l, ↓ls_0, ↓ls_s, ↓gb_fr, ↓gb_ow, ↓rb_fr, ↓rb_ow, ↓to_0, ↓to_v, ↓to_b, ↓to_map, ↓to_mapn, ↓tb_fr, ↓tb_ow, ↓bk_0, ↓bk_v, ↓bk_bi, ↓ba_0, ↓ba_s, ↓bk_mapf, ↓bk_mapn, ↓bb_fr, ↓bb_ow, ↓ui_un, ↓set_tag, ↓set_tagf, ↓df_0, ↓sp_0, ↓sp_n, ↓sp_s, ↓fs_0, ↓fs_s, ↓fs_map, ↓ct_0, ↓ct_fr, ↓ct_un, ↓ct_ow, ↓ap_00, ↓ap_0s, ↓ap_s, ↓as_0, ↓as_s, ↓in_v, ↓in_b, ↓ib_fr, ↓ib_ow, ↓fl_v, ↓fr_fd, ↓fl_b, ↓fb_fr, ↓fb_ow, ↓get_look, ↓ln_i, ↓sf_fr, ↓sf_ow, ↓mk_r, ↓w_var, ↓w_view, ↓w_lift, ↓w_frz, ↓w_m1, ↓w_m2, ↓w_mV2, ↓w_m2V, ↓w_tst, ↓w_isN, ↓w_notN, ↓bv_bl, ↓w_andV, ↓w_orV, ↓nv_bl, ↓w_notV, ↓w_ch, ↓pt_i, ↓w_part, ↓w_sl, ↓w_slV, ↓w_cal, ↓w_lenV, ↓w_is, ↓w_isO, ↓w_put, ↓w_set, ↓w_move, ↓w_seq, ↓w_asg, ↓w_app, ↓w_setI, ↓w_items, ↓w_gB, ↓w_rB, ↓w_cl, ↓w_callA, ↓w_gStar, ↓w_fld, ↓get_d1, ↓w_mth, ↓w_mthS, ↓w_prp, ↓w_lenO, ↓w_own2, ↓w_ownB, ↓w_augO, ↓w_setF, ↓w_fn, ↓w_mk, ↓w_arg, ↓w_any, ↓w_kw, ↓selR, ↓selA, ↓sQ_0, ↓sQ_s, ↓st_nx, ↓st_ct, ↓st_bk, ↓st_rt, ↓w_lc, ↓g_ixt, ↓g_ixl, ↓g_ixs, ↓at_0, ↓at_1, ↓at_2, ↓at_3, ↓ix_0, ↓ix_1, ↓ix_2, ↓g_addi, ↓g_adds, ↓g_addt, ↓g_addl, ↓g_muli, ↓g_mult, ↓g_mull, ↓g_sub, ↓g_div, ↓g_mod, ↓g_pow, ↓g_bD, ↓g_lt, ↓g_le, ↓g_gt, ↓g_ge, ↓g_neg, ↓g_bl, ↓g_int, ↓g_lent, ↓g_lenl, ↓g_lens, ↓g_list, ↓g_lisl, ↓g_tupt, ↓g_tupl, ↓g_max, ↓g_min, ↓g_itt, ↓g_itl, ↓g_its, ↓g_slt, ↓g_sll, ↓g_sls, ↓g_rng1, ↓g_rng2, ↓g_enum, ↓g_nm, ↓g_tp, ↓g_gc, ↓g_gn, ↓g_isIntD_non, ↓g_isIntD_bl, ↓g_isIntD_int, ↓g_isIntD_str, ↓g_isIntD_tup, ↓g_isIntD_lst, ↓g_isBoolD_non, ↓g_isBoolD_bl, ↓g_isBoolD_int, ↓g_isBoolD_str, ↓g_isBoolD_tup, ↓g_isBoolD_lst, ↓g_isTupD_non, ↓g_isTupD_bl, ↓g_isTupD_int, ↓g_isTupD_str, ↓g_isTupD_tup, ↓g_isTupD_lst, ↓g_isStrD_non, ↓g_isStrD_bl, ↓g_isStrD_int, ↓g_isStrD_str, ↓g_isStrD_tup, ↓g_isStrD_lst, ↓g_own_non, ↓g_own_bl, ↓g_own_int, ↓g_own_str, ↓g_own_tup, ↓g_own_lst, ↓g_own_ins, ↓g_eqi, ↓g_eqs, ↓g_nei, ↓g_nes, ↓p_bnd, ↓p_ret, ↓p_none, ↓p_fr, ↓p_and, ↓p_or, ↓p_not, ↓p_ifE, ↓p_bl, ↓p_nil, ↓p_cons, ↓p_tup, ↓p_lst, ↓p_drop, ↓p_rt, ↓p_mif, ↓p_for, ↓p_gNil, ↓p_gV, ↓p_gApp, ↓p_rV, ↓p_if, cs_un, cs_fr, List.length_cons, List.length_nil, List.length_map, Nat.zero_add, insD_i, decide_eq_true_eq, Bool.not_eq_true', Bool.not_true, Bool.not_false, decide_eq_false_iff_not, true_and, and_true, ne_eq, not_false_eq_true, List.lookup_cons, Nat.reduceAdd, isN_non, isN_bl, isN_int, isN_str, isN_tup, isN_lst, ↓reduceIte]
  refine wthere_spec hw ?_
  simp (decide := true) only [↓k_some, ↓k_no, ↓k_ite, ↓getK_0, ↓getK_s, ↓setK_0, ↓setK_s, ↓ff_0, ↓ff_s, ↓ff_o, ↓fo_l, ↓fo_i, ↓fk_fr, ↓fk_ow, ↓vk_fr, ↓vk_ow, ↓vw_fr, ↓vw_l, ↓mv_fr, ↓mv_ow, ↓sq_nx, ↓sq_bk, ↓sq_ct, ↓sq_rt, ↓fi_rt, ↓fi_nx, ↓ou_0, ↓ou_fr, ↓ou_ow, ↓ou_un, ↓ou_of, ↓ou_on, ↓un_00, ↓un_0s, ↓un_s, ↓rk_fr, ↓rk_un, ↓rk_ow, ↓ak_l, ↓lk_l, ↓si_l, ↓ls_0, ↓ls_s, ↓gb_fr, ↓gb_ow, ↓rb_fr, ↓rb_ow, ↓to_0, ↓to_v, ↓to_b, ↓to_map, ↓to_mapn, ↓tb_fr, ↓tb_ow, ↓bk_0, ↓bk_v, ↓bk_bi, ↓ba_0, ↓ba_s, ↓bk_mapf, ↓bk_mapn, ↓bb_fr, ↓bb_ow, ↓ui_un, ↓set_tag, ↓set_tagf, ↓df_0, ↓sp_0, ↓sp_n, ↓sp_s, ↓fs_0, ↓fs_s, ↓fs_map, ↓ct_0, ↓ct_fr, ↓ct_un, ↓ct_ow, ↓ap_00, ↓ap_0s, ↓ap_s, ↓as_0, ↓as_s, ↓in_v, ↓in_b, ↓ib_fr, ↓ib_ow, ↓fl_v, ↓fr_fd, ↓fl_b, ↓fb_fr, ↓fb_ow, ↓get_look, ↓ln_i, ↓sf_fr, ↓sf_ow, ↓mk_r, ↓w_var, ↓w_view, ↓w_lift, ↓w_frz, ↓w_m1, ↓w_m2, ↓w_mV2, ↓w_m2V, ↓w_tst, ↓w_isN, ↓w_notN, ↓bv_bl, ↓w_andV, ↓w_orV, ↓nv_bl, ↓w_notV, ↓w_ch, ↓pt_i, ↓w_part, ↓w_sl, ↓w_slV, ↓w_cal, ↓w_lenV, ↓w_is, ↓w_isO, ↓w_put, ↓w_set, ↓w_move, ↓w_seq, ↓w_asg, ↓w_app, ↓w_setI, ↓w_items, ↓w_gB, ↓w_rB, ↓w_cl, ↓w_callA, ↓w_gStar, ↓w_fld, ↓get_d1, ↓w_mth, ↓w_mthS, ↓w_prp, ↓w_lenO, ↓w_own2, ↓w_ownB, ↓w_augO, ↓w_setF, ↓w_fn, ↓w_mk, ↓w_arg, ↓w_any, ↓w_kw, ↓selR, ↓selA, ↓sQ_0, ↓sQ_s, ↓st_nx, ↓st_ct, ↓st_bk, ↓st_rt, ↓w_lc, ↓g_ixt, ↓g_ixl, ↓g_ixs, ↓at_0, ↓at_1, ↓at_2, ↓at_3, ↓ix_0, ↓ix_1, ↓ix_2, ↓g_addi, ↓g_adds, ↓g_addt, ↓g_addl, ↓g_muli, ↓g_mult, ↓g_mull, ↓g_sub, ↓g_div, ↓g_mod, ↓g_pow, ↓g_bD, ↓g_lt, ↓g_le, ↓g_gt, ↓g_ge, ↓g_neg, ↓g_bl, ↓g_int, ↓g_lent, ↓g_lenl, ↓g_lens, ↓g_list, ↓g_lisl, ↓g_tupt, ↓g_tupl, ↓g_max, ↓g_min, ↓g_itt, ↓g_itl, ↓g_its, ↓g_slt, ↓g_sll, ↓g_sls, ↓g_rng1, ↓g_rng2, ↓g_enum, ↓g_nm, ↓g_tp, ↓g_gc, ↓g_gn, ↓g_isIntD_non, ↓g_isIntD_bl, ↓g_isIntD_int, ↓g_isIntD_str, ↓g_isIntD_tup, ↓g_isIntD_lst, ↓g_isBoolD_non, ↓g_isBoolD_bl, ↓g_isBoolD_int, ↓g_isBoolD_str, ↓g_isBoolD_tup, ↓g_isBoolD_lst, ↓g_isTupD_non, ↓g_isTupD_bl, ↓g_isTupD_int, ↓g_isTupD_str, ↓g_isTupD_tup, ↓g_isTupD_lst, ↓g_isStrD_non, ↓g_isStrD_bl, ↓g_isStrD_int, ↓g_isStrD_str, ↓g_isStrD_tup, ↓g_isStrD_lst, ↓g_own_non, ↓g_own_bl, ↓g_own_int, ↓g_own_str, ↓g_own_tup, ↓g_own_lst, ↓g_own_ins, ↓g_eqi, ↓g_eqs, ↓g_nei, ↓g_nes, ↓p_bnd, ↓p_ret, ↓p_none, ↓p_fr, ↓p_and, ↓p_or, ↓p_not, ↓p_ifE, ↓p_bl, ↓p_nil, ↓p_cons, ↓p_tup, ↓p_lst, ↓p_drop, ↓p_rt, ↓p_mif, ↓p_for, ↓p_gNil, ↓p_gV, ↓p_gApp, ↓p_rV, ↓p_if, cs_un, cs_fr, List.length_cons, List.length_nil, List.length_map, Nat.zero_add, insD_i, decide_eq_true_eq, Bool.not_eq_true', Bool.not_true, Bool.not_false, decide_eq_false_iff_not, true_and, and_true, ne_eq, not_false_eq_true, List.lookup_cons, Nat.reduceAdd, isN_non, isN_bl, isN_int, isN_str, isN_tup, isN_lst, ↓reduceIte]
  exact h
theorem spots_spec {t : List D} {ms : List Int} {Q : Sl → List Sl → Prop} (hm : Spots t.length ms) (h : Q (.fr (.bl true)) [.fr (.tup t), .fr (.tup (ms.map .int))]) : PostF (f_is_spots Z) [.fr (.tup t), .fr (.tup (ms.map .int))] Q := by
  unfold f_is_spots b_is_spots
  simp (decide := true) only [↓k_some, ↓k_no, ↓k_ite, ↓getK_0, ↓getK_s, ↓setK_0, ↓setK_s, ↓ff_0, ↓ff_s, ↓ff_o, ↓fo_l, ↓fo_i, ↓fk_fr, ↓fk_ow, ↓vk_fr, ↓vk_ow, ↓vw_fr, ↓vw_l, ↓mv_fr, ↓mv_ow, ↓sq_nx, ↓sq_bk, ↓sq_ct, ↓sq_rt, ↓fi_rt, ↓fi_nx, ↓ou_0, ↓ou_fr, ↓ou_ow, ↓ou_un, ↓ou_of, ↓ou_on, ↓un_00, ↓un_0s, ↓un_s, ↓rk_fr, ↓rk_un, ↓rk_ow, ↓ak_l, ↓lk_l, ↓si_l, ↓ls_0, ↓ls_s, ↓gb_fr, ↓gb_ow, ↓rb_fr, ↓rb_ow, ↓to_0, ↓to_v, ↓to_b, ↓to_map, ↓to_mapn, ↓tb_fr, ↓tb_ow, ↓bk_0, ↓bk_v, ↓bk_bi, ↓ba_0, ↓ba_s, ↓bk_mapf, ↓bk_mapn, ↓bb_fr, ↓bb_ow, ↓ui_un, ↓set_tag, ↓set_tagf, ↓df_0, ↓sp_0, ↓sp_n, ↓sp_s, ↓fs_0, ↓fs_s, ↓fs_map, ↓ct_0, ↓ct_fr, ↓ct_un, ↓ct_ow, ↓ap_00, ↓ap_0s, ↓ap_s, ↓as_0, ↓as_s, ↓in_v, ↓in_b, ↓ib_fr, ↓ib_ow, ↓fl_v, ↓fr_fd, ↓fl_b, ↓fb_fr, ↓fb_ow, ↓get_look, ↓ln_i, ↓sf_fr, ↓sf_ow, ↓mk_r, ↓w_var, ↓w_view, ↓w_lift, ↓w_frz, ↓w_m1, ↓w_m2, ↓w_mV2, ↓w_m2V, ↓w_tst, ↓w_isN, ↓w_notN, ↓bv_bl, ↓w_andV, ↓w_orV, ↓nv_bl, ↓w_notV, ↓w_ch, ↓pt_i, ↓w_part, ↓w_sl, ↓w_slV, ↓w_cal, ↓w_lenV, ↓w_is, ↓w_isO, ↓w_put, ↓w_set, ↓w_move, ↓w_seq, ↓w_asg, ↓w_app, ↓w_setI, ↓w_items, ↓w_gB, ↓w_rB, ↓w_cl, ↓w_callA, ↓w_gStar, ↓w_fld, ↓get_d1, ↓w_mth, ↓w_mthS, ↓w_prp, ↓w_lenO, ↓w_own2, ↓w_ownB, ↓w_augO, ↓w_setF, ↓w_fn, ↓w_mk, ↓w_arg, ↓w_any, ↓w_kw, ↓selR, ↓selA, ↓sQ_0, ↓sQ_s, ↓st_nx, ↓st_ct, ↓st_bk, ↓st_rt, ↓w_lc, ↓g_ixt, ↓g_ixl, ↓g_ixs, ↓at_0, ↓at_1, ↓at_2, ↓at_3, ↓ix_0, ↓ix_1, ↓ix_2, ↓g_addi, ↓g_adds, ↓g_addt, ↓g_addl, ↓g_muli, ↓g_mult, ↓g_mull, ↓g_sub, ↓g_div, ↓g_mod, ↓g_pow, ↓g_bD, ↓g_lt, ↓g_le, ↓g_gt, ↓g_ge, ↓g_neg, ↓g_bl, ↓g_int, ↓g_lent, ↓g_lenl, ↓g_lens, ↓g_list, ↓g_lisl, ↓g_tupt, ↓g_tupl, ↓g_max, ↓g_min, ↓g_itt, ↓g_itl, ↓g_its, ↓g_slt, ↓g_sll, ↓g_sls, ↓g_rng1, ↓g_rng2, ↓g_enum, ↓g_nm, ↓g_tp, ↓g_gc, ↓g_gn, ↓g_isIntD_non, ↓g_isIntD_bl, ↓g_isIntD_int, ↓g_isIntD_str, ↓g_isIntD_tup, ↓g_isIntD_lst, ↓g_isBoolD_non, ↓g_isBoolD_bl, ↓g_isBoolD_int, ↓g_isBoolD_str, ↓g_isBoolD_tup, ↓g_isBoolD_lst, ↓g_isTupD_non, ↓g_isTupD_bl, ↓g_isTupD_int, ↓g_isTupD_str, ↓g_isTupD_tup, ↓g_isTupD_lst, ↓g_isStrD_non, ↓g_isStrD_bl, ↓g_isStrD_int, ↓g_isStrD_str, ↓g_isStrD_tup, ↓g_isStrD_lst, ↓g_own_non, ↓g_own_bl, ↓g_own_int, ↓g_own_str, ↓g_own_tup, ↓g_own_lst, ↓g_own_ins, ↓g_eqi, ↓g_eqs, ↓g_nei, ↓g_nes, ↓p_bnd, ↓p_ret, ↓p_none, ↓p_fr, ↓p_and, ↓p_or, ↓p_not, ↓p_ifE, ↓p_bl, ↓p_nil, ↓p_cons, ↓p_tup, ↓p_lst, ↓p_drop, ↓p_rt, ↓p_mif, ↓p_for, ↓p_gNil, ↓p_gV, ↓p_gApp, ↓p_rV, ↓p_if, cs_un, cs_fr, List.length_cons, List.length_nil, List.length_map, Nat.zero_add, insD_i, decide_eq_true_eq, Bool.not_eq_true', Bool.not_true, Bool.not_false, decide_eq_false_iff_not, true_and, and_true, ne_eq, not_false_eq_true, List.lookup_cons, Nat.reduceAdd, isN_non, isN_bl, isN_int, isN_str, isN_tup, isN_lst, ↓reduceIte]
  refine for_inv (fun i a => ∃ x y : Sl, a = [.fr (.tup t), .fr (.tup (ms.map .int)), x, y]) ⟨.un, .un, rfl⟩ (fun i d a hd hI => ?_) (fun a hI => ?_)
  · obtain ⟨x, y, rfl⟩ := hI
    obtain ⟨z, hz, rfl⟩ := enums_at hd
    rw [List.getElem?_map] at hz
    obtain ⟨m, em, rfl⟩ := Option.map_eq_some_iff.mp hz
    obtain ⟨u1, u2⟩ := hm.1 m (List.mem_of_getElem? em)
    have il := (List.getElem?_eq_some_iff.mp em).1
    simp (decide := true) only [↓k_some, ↓k_no, ↓k_ite, ↓getK_0, ↓getK_s, ↓setK_0, ↓setK_s, ↓ff_0, ↓ff_s, ↓ff_o, ↓fo_l, ↓fo_i, ↓fk_fr, ↓fk_ow, ↓vk_fr, ↓vk_ow, ↓vw_fr, ↓vw_l, ↓mv_fr, ↓mv_ow, ↓sq_nx, ↓sq_bk, ↓sq_ct, ↓sq_rt, ↓fi_rt, ↓fi_nx, ↓ou_0, ↓ou_fr, ↓ou_ow, ↓ou_un, ↓ou_of, ↓ou_on, ↓un_00, ↓un_0s, ↓un_s, ↓rk_fr, ↓rk_un, ↓rk_ow, ↓ak_l, ↓lk_l, ↓si_l, ↓ls_0, ↓ls_s, ↓gb_fr, ↓gb_ow, ↓rb_fr, ↓rb_ow, ↓to_0, ↓to_v, ↓to_b, ↓to_map, ↓to_mapn, ↓tb_fr, ↓tb_ow, ↓bk_0, ↓bk_v, ↓bk_bi, ↓ba_0, ↓ba_s, ↓bk_mapf, ↓bk_mapn, ↓bb_fr, ↓bb_ow, ↓ui_un, ↓set_tag, ↓set_tagf, ↓df_0, ↓sp_0, ↓sp_n, ↓sp_s, ↓fs_0, ↓fs_s, ↓fs_map, ↓ct_0, ↓ct_fr, ↓ct_un, ↓ct_ow, ↓ap_00, ↓ap_0s, ↓ap_s, ↓as_0, ↓as_s, ↓in_v, ↓in_b, ↓ib_fr, ↓ib_ow, ↓fl_v, ↓fr_fd, ↓fl_b, ↓fb_fr, ↓fb_ow, ↓get_look, ↓ln_i, ↓sf_fr, ↓sf_ow, ↓mk_r, ↓w_var, ↓w_view, ↓w_lift, ↓w_frz, ↓w_m1, ↓w_m2, ↓w_mV2, ↓w_m2V, ↓w_tst, ↓w_isN, ↓w_notN, ↓bv_bl, ↓w_andV, ↓w_orV, ↓nv_bl, ↓w_notV, ↓w_ch, ↓pt_i, ↓w_part, ↓w_sl, ↓w_slV, ↓w_cal, ↓w_lenV, ↓w_is, ↓w_isO, ↓w_put, ↓w_set, ↓w_move, ↓w_seq, ↓w_asg, ↓w_app, ↓w_setI, ↓w_items, ↓w_gB, ↓w_rB, ↓w_cl, ↓w_callA, ↓w_gStar, ↓w_fld, ↓get_d1, ↓w_mth, ↓w_mthS, ↓w_prp, ↓w_lenO, ↓w_own2, ↓w_ownB, ↓w_augO, ↓w_setF, ↓w_fn, ↓w_mk, ↓w_arg, ↓w_any, ↓w_kw, ↓selR, ↓selA, ↓sQ_0, ↓sQ_s, ↓st_nx, ↓st_ct, ↓st_bk, ↓st_rt, ↓w_lc, ↓g_ixt, ↓g_ixl, ↓g_ixs, ↓at_0, ↓at_1, ↓at_2, ↓at_3, ↓ix_0, ↓ix_1, ↓ix_2, ↓g_addi, ↓g_adds, ↓g_addt, ↓g_addl, ↓g_muli, ↓g_mult, ↓g_mull, ↓g_sub, ↓g_div, ↓g_mod, ↓g_pow, ↓g_bD, ↓g_lt, ↓g_le, ↓g_gt, ↓g_ge, ↓g_neg, ↓g_bl, ↓g_int, ↓g_lent, ↓g_lenl, ↓g_lens, ↓g_list, ↓g_lisl, ↓g_tupt, ↓g_tupl, ↓g_max, ↓g_min, ↓g_itt, ↓g_itl, ↓g_its, ↓g_slt, ↓g_sll, ↓g_sls, ↓g_rng1, ↓g_rng2, ↓g_enum, ↓g_nm, ↓g_tp, ↓g_gc, ↓g_gn, ↓g_isIntD_non, ↓g_isIntD_bl, ↓g_isIntD_int, ↓g_isIntD_str, ↓g_isIntD_tup, ↓g_isIntD_lst, ↓g_isBoolD_non, ↓g_isBoolD_bl, ↓g_isBoolD_int, ↓g_isBoolD_str, ↓g_isBoolD_tup, ↓g_isBoolD_lst, ↓g_isTupD_non, ↓g_isTupD_bl, ↓g_isTupD_int, ↓g_isTupD_str, ↓g_isTupD_tup, ↓g_isTupD_lst, ↓g_isStrD_non, ↓g_isStrD_bl, ↓g_isStrD_int, ↓g_isStrD_str, ↓g_isStrD_tup, ↓g_isStrD_lst, ↓g_own_non, ↓g_own_bl, ↓g_own_int, ↓g_own_str, ↓g_own_tup, ↓g_own_lst, ↓g_own_ins, ↓g_eqi, ↓g_eqs, ↓g_nei, ↓g_nes, ↓p_bnd, ↓p_ret, ↓p_none, ↓p_fr, ↓p_and, ↓p_or, ↓p_not, ↓p_ifE, ↓p_bl, ↓p_nil, ↓p_cons, ↓p_tup, ↓p_lst, ↓p_drop, ↓p_rt, ↓p_mif, ↓p_for, ↓p_gNil, ↓p_gV, ↓p_gApp, ↓p_rV, ↓p_if, cs_un, cs_fr, List.length_cons, List.length_nil, List.length_map, Nat.zero_add, insD_i, decide_eq_true_eq, Bool.not_eq_true', Bool.not_true, Bool.not_false, decide_eq_false_iff_not, true_and, and_true, ne_eq, not_false_eq_true, List.lookup_cons, Nat.reduceAdd, isN_non, isN_bl, isN_int, isN_str, isN_tup, isN_lst, ↓reduceIte]
    refine spot_spec u1 u2 ?_
    simp (decide := true) only [↓k_some, ↓k_no, ↓k_ite, ↓getK_0, ↓getK_s, ↓setK_0, ↓setK_s, ↓ff_0, ↓ff_s, ↓ff_o, ↓fo_l, ↓fo_i, ↓fk_fr, ↓fk_ow, ↓vk_fr, ↓vk_ow, ↓vw_fr, ↓vw_l, ↓mv_fr, ↓mv_ow, ↓sq_nx, ↓sq_bk, ↓sq_ct, ↓sq_rt, ↓fi_rt, ↓fi_nx, ↓ou_0, ↓ou_fr, ↓ou_ow, ↓ou_un, ↓ou_of, ↓ou_on, ↓un_00, ↓un_0s, ↓un_s, ↓rk_fr, ↓rk_un, ↓rk_ow, ↓ak_l, ↓lk_l, ↓si_l, ↓ls_0, ↓ls_s, ↓gb_fr, ↓gb_ow, ↓rb_fr, ↓rb_ow, ↓to_0, ↓to_v, ↓to_b, ↓to_map, ↓to_mapn, ↓tb_fr, ↓tb_ow, ↓bk_0, ↓bk_v, ↓bk_bi, ↓ba_0, ↓ba_s, ↓bk_mapf, ↓bk_mapn, ↓bb_fr, ↓bb_ow, ↓ui_un, ↓set_tag, ↓set_tagf, ↓df_0, ↓sp_0, ↓sp_n, ↓sp_s, ↓fs_0, ↓fs_s, ↓fs_map, ↓ct_0, ↓ct_fr, ↓ct_un, ↓ct_ow, ↓ap_00, ↓ap_0s, ↓ap_s, ↓as_0, ↓as_s, ↓in_v, ↓in_b, ↓ib_fr, ↓ib_ow, ↓fl_v, ↓fr_fd, ↓fl_b, ↓fb_fr, ↓fb_ow, ↓get_look, ↓ln_i, ↓sf_fr, ↓sf_ow, ↓mk_r, ↓w_var, ↓w_view, ↓w_lift, ↓w_frz, ↓w_m1, ↓w_m2, ↓w_mV2, ↓w_m2V, ↓w_tst, ↓w_isN, ↓w_notN, ↓bv_bl, ↓w_andV, ↓w_orV, ↓nv_bl, ↓w_notV, ↓w_ch, ↓pt_i, ↓w_part, ↓w_sl, ↓w_slV, ↓w_cal, ↓w_lenV, ↓w_is, ↓w_isO, ↓w_put, ↓w_set, ↓w_move, ↓w_seq, ↓w_asg, ↓w_app, ↓w_setI, ↓w_items, ↓w_gB, ↓w_rB, ↓w_cl, ↓w_callA, ↓w_gStar, ↓w_fld, ↓get_d1, ↓w_mth, ↓w_mthS, ↓w_prp, ↓w_lenO, ↓w_own2, ↓w_ownB, ↓w_augO, ↓w_setF, ↓w_fn, ↓w_mk, ↓w_arg, ↓w_any, ↓w_kw, ↓selR, ↓selA, ↓sQ_0, ↓sQ_s, ↓st_nx, ↓st_ct, ↓st_bk, ↓st_rt, ↓w_lc, ↓g_ixt, ↓g_ixl, ↓g_ixs, ↓at_0, ↓at_1, ↓at_2, ↓at_3, ↓ix_0, ↓ix_1, ↓ix_2, ↓g_addi, ↓g_adds, ↓g_addt, ↓g_addl, ↓g_muli, ↓g_mult, ↓g_mull, ↓g_sub, ↓g_div, ↓g_mod, ↓g_pow, ↓g_bD, ↓g_lt, ↓g_le, ↓g_gt, ↓g_ge, ↓g_neg, ↓g_bl, ↓g_int, ↓g_lent, ↓g_lenl, ↓g_lens, ↓g_list, ↓g_lisl, ↓g_tupt, ↓g_tupl, ↓g_max, ↓g_min, ↓g_itt, ↓g_itl, ↓g_its, ↓g_slt, ↓g_sll, ↓g_sls, ↓g_rng1, ↓g_rng2, ↓g_enum, ↓g_nm, ↓g_tp, ↓g_gc, ↓g_gn, ↓g_isIntD_non, ↓g_isIntD_bl, ↓g_isIntD_int, ↓g_isIntD_str, ↓g_isIntD_tup, ↓g_isIntD_lst, ↓g_isBoolD_non, ↓g_isBoolD_bl, ↓g_isBoolD_int, ↓g_isBoolD_str, ↓g_isBoolD_tup, ↓g_isBoolD_lst, ↓g_isTupD_non, ↓g_isTupD_bl, ↓g_isTupD_int, ↓g_isTupD_str, ↓g_isTupD_tup, ↓g_isTupD_lst, ↓g_isStrD_non, ↓g_isStrD_bl, ↓g_isStrD_int, ↓g_isStrD_str, ↓g_isStrD_tup, ↓g_isStrD_lst, ↓g_own_non, ↓g_own_bl, ↓g_own_int, ↓g_own_str, ↓g_own_tup, ↓g_own_lst, ↓g_own_ins, ↓g_eqi, ↓g_eqs, ↓g_nei, ↓g_nes, ↓p_bnd, ↓p_ret, ↓p_none, ↓p_fr, ↓p_and, ↓p_or, ↓p_not, ↓p_ifE, ↓p_bl, ↓p_nil, ↓p_cons, ↓p_tup, ↓p_lst, ↓p_drop, ↓p_rt, ↓p_mif, ↓p_for, ↓p_gNil, ↓p_gV, ↓p_gApp, ↓p_rV, ↓p_if, cs_un, cs_fr, List.length_cons, List.length_nil, List.length_map, Nat.zero_add, insD_i, decide_eq_true_eq, Bool.not_eq_true', Bool.not_true, Bool.not_false, decide_eq_false_iff_not, true_and, and_true, ne_eq, not_false_eq_true, List.lookup_cons, Nat.reduceAdd, isN_non, isN_bl, isN_int, isN_str, isN_tup, isN_lst, ↓reduceIte]
    by_cases h0 : 0 < i
    · rw [if_pos (by omega)]
      have e1 : L2.atI (ms.map D.int) ((i : Int) - 1) = some (.int (ms[i - 1])) := by
        refine atI_in (by omega) ?_
        rw [show ((i : Int) - 1).toNat = i - 1 by omega]
        simp
      have lt : ms[i - 1] < m := by
        have e3 : ms[i] = m := (List.getElem?_eq_some_iff.mp em).2
        rw [← e3]
        exact List.pairwise_iff_getElem.mp hm.2 (i - 1) i (by omega) il (by omega)
      simp (decide := true) only [e1, ↓k_some, ↓k_no, ↓k_ite, ↓getK_0, ↓getK_s, ↓setK_0, ↓setK_s, ↓ff_0, ↓ff_s, ↓ff_o, ↓fo_l, ↓fo_i, ↓fk_fr, ↓fk_ow, ↓vk_fr, ↓vk_ow, ↓vw_fr, ↓vw_l, ↓mv_fr, ↓mv_ow, ↓sq_nx, ↓sq_bk, ↓sq_ct, ↓sq_rt, ↓fi_rt, ↓fi_nx, ↓ou_0, ↓ou_fr, ↓ou_ow, ↓ou_un, ↓ou_of, ↓ou_on, ↓un_00, ↓un_0s, ↓un_s, ↓rk_fr, ↓rk_un, ↓rk_ow, ↓ak_l, ↓lk_l, ↓si_l, ↓ls_0, ↓ls_s, ↓gb_fr, ↓gb_ow, ↓rb_fr, ↓rb_ow, ↓to_0, ↓to_v, ↓to_b, ↓to_map, ↓to_mapn, ↓tb_fr, ↓tb_ow, ↓bk_0, ↓bk_v, ↓bk_bi, ↓ba_0, ↓ba_s, ↓bk_mapf, ↓bk_mapn, ↓bb_fr, ↓bb_ow, ↓ui_un, ↓set_tag, ↓set_tagf, ↓df_0, ↓sp_0, ↓sp_n, ↓sp_s, ↓fs_0, ↓fs_s, ↓fs_map, ↓ct_0, ↓ct_fr, ↓ct_un, ↓ct_ow, ↓ap_00, ↓ap_0s, ↓ap_s, ↓as_0, ↓as_s, ↓in_v, ↓in_b, ↓ib_fr, ↓ib_ow, ↓fl_v, ↓fr_fd, ↓fl_b, ↓fb_fr, ↓fb_ow, ↓get_look, ↓ln_i, ↓sf_fr, ↓sf_ow, ↓mk_r, ↓w_var, ↓w_view, ↓w_lift, ↓w_frz, ↓w_m1, ↓w_m2, ↓w_mV2, ↓w_m2V, ↓w_tst, ↓w_isN, ↓w_notN, ↓bv_bl, ↓w_andV, ↓w_orV, ↓nv_bl, ↓w_notV, ↓w_ch, ↓pt_i, ↓w_part, ↓w_sl, ↓w_slV, ↓w_cal, ↓w_lenV, ↓w_is, ↓w_isO, ↓w_put, ↓w_set, ↓w_move, ↓w_seq, ↓w_asg, ↓w_app, ↓w_setI, ↓w_items, ↓w_gB, ↓w_rB, ↓w_cl, ↓w_callA, ↓w_gStar, ↓w_fld, ↓get_d1, ↓w_mth, ↓w_mthS, ↓w_prp, ↓w_lenO, ↓w_own2, ↓w_ownB, ↓w_augO, ↓w_setF, ↓w_fn, ↓w_mk, ↓w_arg, ↓w_any, ↓w_kw, ↓selR, ↓selA, ↓sQ_0, ↓sQ_s, ↓st_nx, ↓st_ct, ↓st_bk, ↓st_rt, ↓w_lc, ↓g_ixt, ↓g_ixl, ↓g_ixs, ↓at_0, ↓at_1, ↓at_2, ↓at_3, ↓ix_0, ↓ix_1, ↓ix_2, ↓g_addi, ↓g_adds, ↓g_addt, ↓g_addl, ↓g_muli, ↓g_mult, ↓g_mull, ↓g_sub, ↓g_div, ↓g_mod, ↓g_pow, ↓g_bD, ↓g_lt, ↓g_le, ↓g_gt, ↓g_ge, ↓g_neg, ↓g_bl, ↓g_int, ↓g_lent, ↓g_lenl, ↓g_lens, ↓g_list, ↓g_lisl, ↓g_tupt, ↓g_tupl, ↓g_max, ↓g_min, ↓g_itt, ↓g_itl, ↓g_its, ↓g_slt, ↓g_sll, ↓g_sls, ↓g_rng1, ↓g_rng2, ↓g_enum, ↓g_nm, ↓g_tp, ↓g_gc, ↓g_gn, ↓g_isIntD_non, ↓g_isIntD_bl, ↓g_isIntD_int, ↓g_isIntD_str, ↓g_isIntD_tup, ↓g_isIntD_lst, ↓g_isBoolD_non, ↓g_isBoolD_bl, ↓g_isBoolD_int, ↓g_isBoolD_str, ↓g_isBoolD_tup, ↓g_isBoolD_lst, ↓g_isTupD_non, ↓g_isTupD_bl, ↓g_isTupD_int, ↓g_isTupD_str, ↓g_isTupD_tup, ↓g_isTupD_lst, ↓g_isStrD_non, ↓g_isStrD_bl, ↓g_isStrD_int, ↓g_isStrD_str, ↓g_isStrD_tup, ↓g_isStrD_lst, ↓g_own_non, ↓g_own_bl, ↓g_own_int, ↓g_own_str, ↓g_own_tup, ↓g_own_lst, ↓g_own_ins, ↓g_eqi, ↓g_eqs, ↓g_nei, ↓g_nes, ↓p_bnd, ↓p_ret, ↓p_none, ↓p_fr, ↓p_and, ↓p_or, ↓p_not, ↓p_ifE, ↓p_bl, ↓p_nil, ↓p_cons, ↓p_tup, ↓p_lst, ↓p_drop, ↓p_rt, ↓p_mif, ↓p_for, ↓p_gNil, ↓p_gV, ↓p_gApp, ↓p_rV, ↓p_if, cs_un, cs_fr, List.length_cons, List.length_nil, List.length_map, Nat.zero_add, insD_i, decide_eq_true_eq, Bool.not_eq_true', Bool.not_true, Bool.not_false, decide_eq_false_iff_not, true_and, and_true, ne_eq, not_false_eq_true, List.lookup_cons, Nat.reduceAdd, isN_non, isN_bl, isN_int, isN_str, isN_tup, isN_lst, ↓reduceIte]
      rw [if_neg (by omega)]
      exact ⟨_, _, rfl⟩
    · rw [if_neg (by omega)]
      exact ⟨_, _, rfl⟩
  · obtain ⟨x, y, rfl⟩ := hI
    simp (decide := true) only [↓k_some, ↓k_no, ↓k_ite, ↓getK_0, ↓getK_s, ↓setK_0, ↓setK_s, ↓ff_0, ↓ff_s, ↓ff_o, ↓fo_l, ↓fo_i, ↓fk_fr, ↓fk_ow, ↓vk_fr, ↓vk_ow, ↓vw_fr, ↓vw_l, ↓mv_fr, ↓mv_ow, ↓sq_nx, ↓sq_bk, ↓sq_ct, ↓sq_rt, ↓fi_rt, ↓fi_nx, ↓ou_0, ↓ou_fr, ↓ou_ow, ↓ou_un, ↓ou_of, ↓ou_on, ↓un_00, ↓un_0s, ↓un_s, ↓rk_fr, ↓rk_un, ↓rk_ow, ↓ak_l, ↓lk_l, ↓si_l, ↓ls_0, ↓ls_s, ↓gb_fr, ↓gb_ow, ↓rb_fr, ↓rb_ow, ↓to_0, ↓to_v, ↓to_b, ↓to_map, ↓to_mapn, ↓tb_fr, ↓tb_ow, ↓bk_0, ↓bk_v, ↓bk_bi, ↓ba_0, ↓ba_s, ↓bk_mapf, ↓bk_mapn, ↓bb_fr, ↓bb_ow, ↓ui_un, ↓set_tag, ↓set_tagf, ↓df_0, ↓sp_0, ↓sp_n, ↓sp_s, ↓fs_0, ↓fs_s, ↓fs_map, ↓ct_0, ↓ct_fr, ↓ct_un, ↓ct_ow, ↓ap_00, ↓ap_0s, ↓ap_s, ↓as_0, ↓as_s, ↓in_v, ↓in_b, ↓ib_fr, ↓ib_ow, ↓fl_v, ↓fr_fd, ↓fl_b, ↓fb_fr, ↓fb_ow, ↓get_look, ↓ln_i, ↓sf_fr, ↓sf_ow, ↓mk_r, ↓w_var, ↓w_view, ↓w_lift, ↓w_frz, ↓w_m1, ↓w_m2, ↓w_mV2, ↓w_m2V, ↓w_tst, ↓w_isN, ↓w_notN, ↓bv_bl, ↓w_andV, ↓w_orV, ↓nv_bl, ↓w_notV, ↓w_ch, ↓pt_i, ↓w_part, ↓w_sl, ↓w_slV, ↓w_cal, ↓w_lenV, ↓w_is, ↓w_isO, ↓w_put, ↓w_set, ↓w_move, ↓w_seq, ↓w_asg, ↓w_app, ↓w_setI, ↓w_items, ↓w_gB, ↓w_rB, ↓w_cl, ↓w_callA, ↓w_gStar, ↓w_fld, ↓get_d1, ↓w_mth, ↓w_mthS, ↓w_prp, ↓w_lenO, ↓w_own2, ↓w_ownB, ↓w_augO, ↓w_setF, ↓w_fn, ↓w_mk, ↓w_arg, ↓w_any, ↓w_kw, ↓selR, ↓selA, ↓sQ_0, ↓sQ_s, ↓st_nx, ↓st_ct, ↓st_bk, ↓st_rt, ↓w_lc, ↓g_ixt, ↓g_ixl, ↓g_ixs, ↓at_0, ↓at_1, ↓at_2, ↓at_3, ↓ix_0, ↓ix_1, ↓ix_2, ↓g_addi, ↓g_adds, ↓g_addt, ↓g_addl, ↓g_muli, ↓g_mult, ↓g_mull, ↓g_sub, ↓g_div, ↓g_mod, ↓g_pow, ↓g_bD, ↓g_lt, ↓g_le, ↓g_gt, ↓g_ge, ↓g_neg, ↓g_bl, ↓g_int, ↓g_lent, ↓g_lenl, ↓g_lens, ↓g_list, ↓g_lisl, ↓g_tupt, ↓g_tupl, ↓g_max, ↓g_min, ↓g_itt, ↓g_itl, ↓g_its, ↓g_slt, ↓g_sll, ↓g_sls, ↓g_rng1, ↓g_rng2, ↓g_enum, ↓g_nm, ↓g_tp, ↓g_gc, ↓g_gn, ↓g_isIntD_non, ↓g_isIntD_bl, ↓g_isIntD_int, ↓g_isIntD_str, ↓g_isIntD_tup, ↓g_isIntD_lst, ↓g_isBoolD_non, ↓g_isBoolD_bl, ↓g_isBoolD_int, ↓g_isBoolD_str, ↓g_isBoolD_tup, ↓g_isBoolD_lst, ↓g_isTupD_non, ↓g_isTupD_bl, ↓g_isTupD_int, ↓g_isTupD_str, ↓g_isTupD_tup, ↓g_isTupD_lst, ↓g_isStrD_non, ↓g_isStrD_bl, ↓g_isStrD_int, ↓g_isStrD_str, ↓g_isStrD_tup, ↓g_isStrD_lst, ↓g_own_non, ↓g_own_bl, ↓g_own_int, ↓g_own_str, ↓g_own_tup, ↓g_own_lst, ↓g_own_ins, ↓g_eqi, ↓g_eqs, ↓g_nei, ↓g_nes, ↓p_bnd, ↓p_ret, ↓p_none, ↓p_fr, ↓p_and, ↓p_or, ↓p_not, ↓p_ifE, ↓p_bl, ↓p_nil, ↓p_cons, ↓p_tup, ↓p_lst, ↓p_drop, ↓p_rt, ↓p_mif, ↓p_for, ↓p_gNil, ↓p_gV, ↓p_gApp, ↓p_rV, ↓p_if, cs_un, cs_fr, List.length_cons, List.length_nil, List.length_map, Nat.zero_add, insD_i, decide_eq_true_eq, Bool.not_eq_true', Bool.not_true, Bool.not_false, decide_eq_false_iff_not, true_and, and_true, ne_eq, not_false_eq_true, List.lookup_cons, Nat.reduceAdd, isN_non, isN_bl, isN_int, isN_str, isN_tup, isN_lst, ↓reduceIte]
    exact h

theorem swaps_spec {t : List D} {ps : List (Int × Int)} {Q : Sl → List Sl → Prop} (hl : ps.length ≤ 10) (hp : Pairs2 t.length ps) (h : Q (.fr (.bl true)) [.fr (.tup t), .fr (.tup (ps.map pairD))]) : PostF (f_is_swaps Z) [.fr (.tup t), .fr (.tup (ps.map pairD))] Q := by
  unfold f_is_swaps b_is_swaps
  simp (decide := true) only [↓k_some, ↓k_no, ↓k_ite, ↓getK_0, ↓getK_s, ↓setK_0, ↓setK_s, ↓ff_0, ↓ff_s, ↓ff_o, ↓fo_l, ↓fo_i, ↓fk_fr, ↓fk_ow, ↓vk_fr, ↓vk_ow, ↓vw_fr, ↓vw_l, ↓mv_fr, ↓mv_ow, ↓sq_nx, ↓sq_bk, ↓sq_ct, ↓sq_rt, ↓fi_rt, ↓fi_nx, ↓ou_0, ↓ou_fr, ↓ou_ow, ↓ou_un, ↓ou_of, ↓ou_on, ↓un_00, ↓un_0s, ↓un_s, ↓rk_fr, ↓rk_un, ↓rk_ow, ↓ak_l, ↓lk_l, ↓si_l, ↓ls_0, ↓ls_s, ↓gb_fr, ↓gb_ow, ↓rb_fr, ↓rb_ow, ↓to_0, ↓to_v, ↓to_b, ↓to_map, ↓to_mapn, ↓tb_fr, ↓tb_ow, ↓bk_0, ↓bk_v, ↓bk_bi, ↓ba_0, ↓ba_s, ↓bk_mapf, ↓bk_mapn, ↓bb_fr, ↓bb_ow, ↓ui_un, ↓set_tag, ↓set_tagf, ↓df_0, ↓sp_0, ↓sp_n, ↓sp_s, ↓fs_0, ↓fs_s, ↓fs_map, ↓ct_0, ↓ct_fr, ↓ct_un, ↓ct_ow, ↓ap_00, ↓ap_0s, ↓ap_s, ↓as_0, ↓as_s, ↓in_v, ↓in_b, ↓ib_fr, ↓ib_ow, ↓fl_v, ↓fr_fd, ↓fl_b, ↓fb_fr, ↓fb_ow, ↓get_look, ↓ln_i, ↓sf_fr, ↓sf_ow, ↓mk_r, ↓w_var, ↓w_view, ↓w_lift, ↓w_frz, ↓w_m1, ↓w_m2, ↓w_mV2, ↓w_m2V, ↓w_tst, ↓w_isN, ↓w_notN, ↓bv_bl, ↓w_andV, ↓w_orV, ↓nv_bl, ↓w_notV, ↓w_ch, ↓pt_i, ↓w_part, ↓w_sl, ↓w_slV, ↓w_cal, ↓w_lenV, ↓w_is, ↓w_isO, ↓w_put, ↓w_set, ↓w_move, ↓w_seq, ↓w_asg, ↓w_app, ↓w_setI, ↓w_items, ↓w_gB, ↓w_rB, ↓w_cl, ↓w_callA, ↓w_gStar, ↓w_fld, ↓get_d1, ↓w_mth, ↓w_mthS, ↓w_prp, ↓w_lenO, ↓w_own2, ↓w_ownB, ↓w_augO, ↓w_setF, ↓w_fn, ↓w_mk, ↓w_arg, ↓w_any, ↓w_kw, ↓selR, ↓selA, ↓sQ_0, ↓sQ_s, ↓st_nx, ↓st_ct, ↓st_bk, ↓st_rt, ↓w_lc, ↓g_ixt, ↓g_ixl, ↓g_ixs, ↓at_0, ↓at_1, ↓at_2, ↓at_3, ↓ix_0, ↓ix_1, ↓ix_2, ↓g_addi, ↓g_adds, ↓g_addt, ↓g_addl, ↓g_muli, ↓g_mult, ↓g_mull, ↓g_sub, ↓g_div, ↓g_mod, ↓g_pow, ↓g_bD, ↓g_lt, ↓g_le, ↓g_gt, ↓g_ge, ↓g_neg, ↓g_bl, ↓g_int, ↓g_lent, ↓g_lenl, ↓g_lens, ↓g_list, ↓g_lisl, ↓g_tupt, ↓g_tupl, ↓g_max, ↓g_min, ↓g_itt, ↓g_itl, ↓g_its, ↓g_slt, ↓g_sll, ↓g_sls, ↓g_rng1, ↓g_rng2, ↓g_enum, ↓g_nm, ↓g_tp, ↓g_gc, ↓g_gn, ↓g_isIntD_non, ↓g_isIntD_bl, ↓g_isIntD_int, ↓g_isIntD_str, ↓g_isIntD_tup, ↓g_isIntD_lst, ↓g_isBoolD_non, ↓g_isBoolD_bl, ↓g_isBoolD_int, ↓g_isBoolD_str, ↓g_isBoolD_tup, ↓g_isBoolD_lst, ↓g_isTupD_non, ↓g_isTupD_bl, ↓g_isTupD_int, ↓g_isTupD_str, ↓g_isTupD_tup, ↓g_isTupD_lst, ↓g_isStrD_non, ↓g_isStrD_bl, ↓g_isStrD_int, ↓g_isStrD_str, ↓g_isStrD_tup, ↓g_isStrD_lst, ↓g_own_non, ↓g_own_bl, ↓g_own_int, ↓g_own_str, ↓g_own_tup, ↓g_own_lst, ↓g_own_ins, ↓g_eqi, ↓g_eqs, ↓g_nei, ↓g_nes, ↓p_bnd, ↓p_ret, ↓p_none, ↓p_fr, ↓p_and, ↓p_or, ↓p_not, ↓p_ifE, ↓p_bl, ↓p_nil, ↓p_cons, ↓p_tup, ↓p_lst, ↓p_drop, ↓p_rt, ↓p_mif, ↓p_for, ↓p_gNil, ↓p_gV, ↓p_gApp, ↓p_rV, ↓p_if, cs_un, cs_fr, List.length_cons, List.length_nil, List.length_map, Nat.zero_add, insD_i, decide_eq_true_eq, Bool.not_eq_true', Bool.not_true, Bool.not_false, decide_eq_false_iff_not, true_and, and_true, ne_eq, not_false_eq_true, List.lookup_cons, Nat.reduceAdd, isN_non, isN_bl, isN_int, isN_str, isN_tup, isN_lst, ↓reduceIte]
  refine for_inv (fun i a => ∃ x : Sl, a = [.fr (.tup t), .fr (.tup (ps.map pairD)), .ow none (.lst ((ps.take i).map fun p => .int p.1)), x]) ⟨.un, rfl⟩ (fun i d a hd hI => ?_) (fun a hI => ?_)
  · obtain ⟨x, rfl⟩ := hI
    rw [List.getElem?_map] at hd
    obtain ⟨p, em, rfl⟩ := Option.map_eq_some_iff.mp hd
    obtain ⟨⟨u1, u2⟩, u3, u4⟩ := hp.1 p (List.mem_of_getElem? em)
    have il := (List.getElem?_eq_some_iff.mp em).1
    simp (decide := true) only [pairD, ↓k_some, ↓k_no, ↓k_ite, ↓getK_0, ↓getK_s, ↓setK_0, ↓setK_s, ↓ff_0, ↓ff_s, ↓ff_o, ↓fo_l, ↓fo_i, ↓fk_fr, ↓fk_ow, ↓vk_fr, ↓vk_ow, ↓vw_fr, ↓vw_l, ↓mv_fr, ↓mv_ow, ↓sq_nx, ↓sq_bk, ↓sq_ct, ↓sq_rt, ↓fi_rt, ↓fi_nx, ↓ou_0, ↓ou_fr, ↓ou_ow, ↓ou_un, ↓ou_of, ↓ou_on, ↓un_00, ↓un_0s, ↓un_s, ↓rk_fr, ↓rk_un, ↓rk_ow, ↓ak_l, ↓lk_l, ↓si_l, ↓ls_0, ↓ls_s, ↓gb_fr, ↓gb_ow, ↓rb_fr, ↓rb_ow, ↓to_0, ↓to_v, ↓to_b, ↓to_map, ↓to_mapn, ↓tb_fr, ↓tb_ow, ↓bk_0, ↓bk_v, ↓bk_bi, ↓ba_0, ↓ba_s, ↓bk_mapf, ↓bk_mapn, ↓bb_fr, ↓bb_ow, ↓ui_un, ↓set_tag, ↓set_tagf, ↓df_0, ↓sp_0, ↓sp_n, ↓sp_s, ↓fs_0, ↓fs_s, ↓fs_map, ↓ct_0, ↓ct_fr, ↓ct_un, ↓ct_ow, ↓ap_00, ↓ap_0s, ↓ap_s, ↓as_0, ↓as_s, ↓in_v, ↓in_b, ↓ib_fr, ↓ib_ow, ↓fl_v, ↓fr_fd, ↓fl_b, ↓fb_fr, ↓fb_ow, ↓get_look, ↓ln_i, ↓sf_fr, ↓sf_ow, ↓mk_r, ↓w_var, ↓w_view, ↓w_lift, ↓w_frz, ↓w_m1, ↓w_m2, ↓w_mV2, ↓w_m2V, ↓w_tst, ↓w_isN, ↓w_notN, ↓bv_bl, ↓w_andV, ↓w_orV, ↓nv_bl, ↓w_notV, ↓w_ch, ↓pt_i, ↓w_part, ↓w_sl, ↓w_slV, ↓w_cal, ↓w_lenV, ↓w_is, ↓w_isO, ↓w_put, ↓w_set, ↓w_move, ↓w_seq, ↓w_asg, ↓w_app, ↓w_setI, ↓w_items, ↓w_gB, ↓w_rB, ↓w_cl, ↓w_callA, ↓w_gStar, ↓w_fld, ↓get_d1, ↓w_mth, ↓w_mthS, ↓w_prp, ↓w_lenO, ↓w_own2, ↓w_ownB, ↓w_augO, ↓w_setF, ↓w_fn, ↓w_mk, ↓w_arg, ↓w_any, ↓w_kw, ↓selR, ↓selA, ↓sQ_0, ↓sQ_s, ↓st_nx, ↓st_ct, ↓st_bk, ↓st_rt, ↓w_lc, ↓g_ixt, ↓g_ixl, ↓g_ixs, ↓at_0, ↓at_1, ↓at_2, ↓at_3, ↓ix_0, ↓ix_1, ↓ix_2, ↓g_addi, ↓g_adds, ↓g_addt, ↓g_addl, ↓g_muli, ↓g_mult, ↓g_mull, ↓g_sub, ↓g_div, ↓g_mod, ↓g_pow, ↓g_bD, ↓g_lt, ↓g_le, ↓g_gt, ↓g_ge, ↓g_neg, ↓g_bl, ↓g_int, ↓g_lent, ↓g_lenl, ↓g_lens, ↓g_list, ↓g_lisl, ↓g_tupt, ↓g_tupl, ↓g_max, ↓g_min, ↓g_itt, ↓g_itl, ↓g_its, ↓g_slt, ↓g_sll, ↓g_sls, ↓g_rng1, ↓g_rng2, ↓g_enum, ↓g_nm, ↓g_tp, ↓g_gc, ↓g_gn, ↓g_isIntD_non, ↓g_isIntD_bl, ↓g_isIntD_int, ↓g_isIntD_str, ↓g_isIntD_tup, ↓g_isIntD_lst, ↓g_isBoolD_non, ↓g_isBoolD_bl, ↓g_isBoolD_int, ↓g_isBoolD_str, ↓g_isBoolD_tup, ↓g_isBoolD_lst, ↓g_isTupD_non, ↓g_isTupD_bl, ↓g_isTupD_int, ↓g_isTupD_str, ↓g_isTupD_tup, ↓g_isTupD_lst, ↓g_isStrD_non, ↓g_isStrD_bl, ↓g_isStrD_int, ↓g_isStrD_str, ↓g_isStrD_tup, ↓g_isStrD_lst, ↓g_own_non, ↓g_own_bl, ↓g_own_int, ↓g_own_str, ↓g_own_tup, ↓g_own_lst, ↓g_own_ins, ↓g_eqi, ↓g_eqs, ↓g_nei, ↓g_nes, ↓p_bnd, ↓p_ret, ↓p_none, ↓p_fr, ↓p_and, ↓p_or, ↓p_not, ↓p_ifE, ↓p_bl, ↓p_nil, ↓p_cons, ↓p_tup, ↓p_lst, ↓p_drop, ↓p_rt, ↓p_mif, ↓p_for, ↓p_gNil, ↓p_gV, ↓p_gApp, ↓p_rV, ↓p_if, cs_un, cs_fr, List.length_cons, List.length_nil, List.length_map, Nat.zero_add, insD_i, decide_eq_true_eq, Bool.not_eq_true', Bool.not_true, Bool.not_false, decide_eq_false_iff_not, true_and, and_true, ne_eq, not_false_eq_true, List.lookup_cons, Nat.reduceAdd, isN_non, isN_bl, isN_int, isN_str, isN_tup, isN_lst, ↓reduceIte]
    refine spot_spec u1 u2 ?_
    simp (decide := true) only [↓k_some, ↓k_no, ↓k_ite, ↓getK_0, ↓getK_s, ↓setK_0, ↓setK_s, ↓ff_0, ↓ff_s, ↓ff_o, ↓fo_l, ↓fo_i, ↓fk_fr, ↓fk_ow, ↓vk_fr, ↓vk_ow, ↓vw_fr, ↓vw_l, ↓mv_fr, ↓mv_ow, ↓sq_nx, ↓sq_bk, ↓sq_ct, ↓sq_rt, ↓fi_rt, ↓fi_nx, ↓ou_0, ↓ou_fr, ↓ou_ow, ↓ou_un, ↓ou_of, ↓ou_on, ↓un_00, ↓un_0s, ↓un_s, ↓rk_fr, ↓rk_un, ↓rk_ow, ↓ak_l, ↓lk_l, ↓si_l, ↓ls_0, ↓ls_s, ↓gb_fr, ↓gb_ow, ↓rb_fr, ↓rb_ow, ↓to_0, ↓to_v, ↓to_b, ↓to_map, ↓to_mapn, ↓tb_fr, ↓tb_ow, ↓bk_0, ↓bk_v, ↓bk_bi, ↓ba_0, ↓ba_s, ↓bk_mapf, ↓bk_mapn, ↓bb_fr, ↓bb_ow, ↓ui_un, ↓set_tag, ↓set_tagf, ↓df_0, ↓sp_0, ↓sp_n, ↓sp_s, ↓fs_0, ↓fs_s, ↓fs_map, ↓ct_0, ↓ct_fr, ↓ct_un, ↓ct_ow, ↓ap_00, ↓ap_0s, ↓ap_s, ↓as_0, ↓as_s, ↓in_v, ↓in_b, ↓ib_fr, ↓ib_ow, ↓fl_v, ↓fr_fd, ↓fl_b, ↓fb_fr, ↓fb_ow, ↓get_look, ↓ln_i, ↓sf_fr, ↓sf_ow, ↓mk_r, ↓w_var, ↓w_view, ↓w_lift, ↓w_frz, ↓w_m1, ↓w_m2, ↓w_mV2, ↓w_m2V, ↓w_tst, ↓w_isN, ↓w_notN, ↓bv_bl, ↓w_andV, ↓w_orV, ↓nv_bl, ↓w_notV, ↓w_ch, ↓pt_i, ↓w_part, ↓w_sl, ↓w_slV, ↓w_cal, ↓w_lenV, ↓w_is, ↓w_isO, ↓w_put, ↓w_set, ↓w_move, ↓w_seq, ↓w_asg, ↓w_app, ↓w_setI, ↓w_items, ↓w_gB, ↓w_rB, ↓w_cl, ↓w_callA, ↓w_gStar, ↓w_fld, ↓get_d1, ↓w_mth, ↓w_mthS, ↓w_prp, ↓w_lenO, ↓w_own2, ↓w_ownB, ↓w_augO, ↓w_setF, ↓w_fn, ↓w_mk, ↓w_arg, ↓w_any, ↓w_kw, ↓selR, ↓selA, ↓sQ_0, ↓sQ_s, ↓st_nx, ↓st_ct, ↓st_bk, ↓st_rt, ↓w_lc, ↓g_ixt, ↓g_ixl, ↓g_ixs, ↓at_0, ↓at_1, ↓at_2, ↓at_3, ↓ix_0, ↓ix_1, ↓ix_2, ↓g_addi, ↓g_adds, ↓g_addt, ↓g_addl, ↓g_muli, ↓g_mult, ↓g_mull, ↓g_sub, ↓g_div, ↓g_mod, ↓g_pow, ↓g_bD, ↓g_lt, ↓g_le, ↓g_gt, ↓g_ge, ↓g_neg, ↓g_bl, ↓g_int, ↓g_lent, ↓g_lenl, ↓g_lens, ↓g_list, ↓g_lisl, ↓g_tupt, ↓g_tupl, ↓g_max, ↓g_min, ↓g_itt, ↓g_itl, ↓g_its, ↓g_slt, ↓g_sll, ↓g_sls, ↓g_rng1, ↓g_rng2, ↓g_enum, ↓g_nm, ↓g_tp, ↓g_gc, ↓g_gn, ↓g_isIntD_non, ↓g_isIntD_bl, ↓g_isIntD_int, ↓g_isIntD_str, ↓g_isIntD_tup, ↓g_isIntD_lst, ↓g_isBoolD_non, ↓g_isBoolD_bl, ↓g_isBoolD_int, ↓g_isBoolD_str, ↓g_isBoolD_tup, ↓g_isBoolD_lst, ↓g_isTupD_non, ↓g_isTupD_bl, ↓g_isTupD_int, ↓g_isTupD_str, ↓g_isTupD_tup, ↓g_isTupD_lst, ↓g_isStrD_non, ↓g_isStrD_bl, ↓g_isStrD_int, ↓g_isStrD_str, ↓g_isStrD_tup, ↓g_isStrD_lst, ↓g_own_non, ↓g_own_bl, ↓g_own_int, ↓g_own_str, ↓g_own_tup, ↓g_own_lst, ↓g_own_ins, ↓g_eqi, ↓g_eqs, ↓g_nei, ↓g_nes, ↓p_bnd, ↓p_ret, ↓p_none, ↓p_fr, ↓p_and, ↓p_or, ↓p_not, ↓p_ifE, ↓p_bl, ↓p_nil, ↓p_cons, ↓p_tup, ↓p_lst, ↓p_drop, ↓p_rt, ↓p_mif, ↓p_for, ↓p_gNil, ↓p_gV, ↓p_gApp, ↓p_rV, ↓p_if, cs_un, cs_fr, List.length_cons, List.length_nil, List.length_map, Nat.zero_add, insD_i, decide_eq_true_eq, Bool.not_eq_true', Bool.not_true, Bool.not_false, decide_eq_false_iff_not, true_and, and_true, ne_eq, not_false_eq_true, List.lookup_cons, Nat.reduceAdd, isN_non, isN_bl, isN_int, isN_str, isN_tup, isN_lst, ↓reduceIte]
    refine spot_spec u3 u4 ?_
    simp (decide := true) only [↓k_some, ↓k_no, ↓k_ite, ↓getK_0, ↓getK_s, ↓setK_0, ↓setK_s, ↓ff_0, ↓ff_s, ↓ff_o, ↓fo_l, ↓fo_i, ↓fk_fr, ↓fk_ow, ↓vk_fr, ↓vk_ow, ↓vw_fr, ↓vw_l, ↓mv_fr, ↓mv_ow, ↓sq_nx, ↓sq_bk, ↓sq_ct, ↓sq_rt, ↓fi_rt, ↓fi_nx, ↓ou_0, ↓ou_fr, ↓ou_ow, ↓ou_un, ↓ou_of, ↓ou_on, ↓un_00, ↓un_0s, ↓un_s, ↓rk_fr, ↓rk_un, ↓rk_ow, ↓ak_l, ↓lk_l, ↓si_l, ↓ls_0, ↓ls_s, ↓gb_fr, ↓gb_ow, ↓rb_fr, ↓rb_ow, ↓to_0, ↓to_v, ↓to_b, ↓to_map, ↓to_mapn, ↓tb_fr, ↓tb_ow, ↓bk_0, ↓bk_v, ↓bk_bi, ↓ba_0, ↓ba_s, ↓bk_mapf, ↓bk_mapn, ↓bb_fr, ↓bb_ow, ↓ui_un, ↓set_tag, ↓set_tagf, ↓df_0, ↓sp_0, ↓sp_n, ↓sp_s, ↓fs_0, ↓fs_s, ↓fs_map, ↓ct_0, ↓ct_fr, ↓ct_un, ↓ct_ow, ↓ap_00, ↓ap_0s, ↓ap_s, ↓as_0, ↓as_s, ↓in_v, ↓in_b, ↓ib_fr, ↓ib_ow, ↓fl_v, ↓fr_fd, ↓fl_b, ↓fb_fr, ↓fb_ow, ↓get_look, ↓ln_i, ↓sf_fr, ↓sf_ow, ↓mk_r, ↓w_var, ↓w_view, ↓w_lift, ↓w_frz, ↓w_m1, ↓w_m2, ↓w_mV2, ↓w_m2V, ↓w_tst, ↓w_isN, ↓w_notN, ↓bv_bl, ↓w_andV, ↓w_orV, ↓nv_bl, ↓w_notV, ↓w_ch, ↓pt_i, ↓w_part, ↓w_sl, ↓w_slV, ↓w_cal, ↓w_lenV, ↓w_is, ↓w_isO, ↓w_put, ↓w_set, ↓w_move, ↓w_seq, ↓w_asg, ↓w_app, ↓w_setI, ↓w_items, ↓w_gB, ↓w_rB, ↓w_cl, ↓w_callA, ↓w_gStar, ↓w_fld, ↓get_d1, ↓w_mth, ↓w_mthS, ↓w_prp, ↓w_lenO, ↓w_own2, ↓w_ownB, ↓w_augO, ↓w_setF, ↓w_fn, ↓w_mk, ↓w_arg, ↓w_any, ↓w_kw, ↓selR, ↓selA, ↓sQ_0, ↓sQ_s, ↓st_nx, ↓st_ct, ↓st_bk, ↓st_rt, ↓w_lc, ↓g_ixt, ↓g_ixl, ↓g_ixs, ↓at_0, ↓at_1, ↓at_2, ↓at_3, ↓ix_0, ↓ix_1, ↓ix_2, ↓g_addi, ↓g_adds, ↓g_addt, ↓g_addl, ↓g_muli, ↓g_mult, ↓g_mull, ↓g_sub, ↓g_div, ↓g_mod, ↓g_pow, ↓g_bD, ↓g_lt, ↓g_le, ↓g_gt, ↓g_ge, ↓g_neg, ↓g_bl, ↓g_int, ↓g_lent, ↓g_lenl, ↓g_lens, ↓g_list, ↓g_lisl, ↓g_tupt, ↓g_tupl, ↓g_max, ↓g_min, ↓g_itt, ↓g_itl, ↓g_its, ↓g_slt, ↓g_sll, ↓g_sls, ↓g_rng1, ↓g_rng2, ↓g_enum, ↓g_nm, ↓g_tp, ↓g_gc, ↓g_gn, ↓g_isIntD_non, ↓g_isIntD_bl, ↓g_isIntD_int, ↓g_isIntD_str, ↓g_isIntD_tup, ↓g_isIntD_lst, ↓g_isBoolD_non, ↓g_isBoolD_bl, ↓g_isBoolD_int, ↓g_isBoolD_str, ↓g_isBoolD_tup, ↓g_isBoolD_lst, ↓g_isTupD_non, ↓g_isTupD_bl, ↓g_isTupD_int, ↓g_isTupD_str, ↓g_isTupD_tup, ↓g_isTupD_lst, ↓g_isStrD_non, ↓g_isStrD_bl, ↓g_isStrD_int, ↓g_isStrD_str, ↓g_isStrD_tup, ↓g_isStrD_lst, ↓g_own_non, ↓g_own_bl, ↓g_own_int, ↓g_own_str, ↓g_own_tup, ↓g_own_lst, ↓g_own_ins, ↓g_eqi, ↓g_eqs, ↓g_nei, ↓g_nes, ↓p_bnd, ↓p_ret, ↓p_none, ↓p_fr, ↓p_and, ↓p_or, ↓p_not, ↓p_ifE, ↓p_bl, ↓p_nil, ↓p_cons, ↓p_tup, ↓p_lst, ↓p_drop, ↓p_rt, ↓p_mif, ↓p_for, ↓p_gNil, ↓p_gV, ↓p_gApp, ↓p_rV, ↓p_if, cs_un, cs_fr, List.length_cons, List.length_nil, List.length_map, Nat.zero_add, insD_i, decide_eq_true_eq, Bool.not_eq_true', Bool.not_true, Bool.not_false, decide_eq_false_iff_not, true_and, and_true, ne_eq, not_false_eq_true, List.lookup_cons, Nat.reduceAdd, isN_non, isN_bl, isN_int, isN_str, isN_tup, isN_lst, ↓reduceIte]
    refine ⟨?_, _, congrArg (fun l => [Sl.fr (D.tup t), Sl.fr (D.tup (ps.map pairD)), Sl.ow none (.lst l), Sl.fr (pairD p)]) ?_⟩
    · simp
      exact Nat.lt_of_lt_of_le (by omega : min i ps.length < 100) (by decide : 100 ≤ sizeLine)
    · rw [List.take_add_one, em]
      simp
  · obtain ⟨x, rfl⟩ := hI
    simp (decide := true) only [↓k_some, ↓k_no, ↓k_ite, ↓getK_0, ↓getK_s, ↓setK_0, ↓setK_s, ↓ff_0, ↓ff_s, ↓ff_o, ↓fo_l, ↓fo_i, ↓fk_fr, ↓fk_ow, ↓vk_fr, ↓vk_ow, ↓vw_fr, ↓vw_l, ↓mv_fr, ↓mv_ow, ↓sq_nx, ↓sq_bk, ↓sq_ct, ↓sq_rt, ↓fi_rt, ↓fi_nx, ↓ou_0, ↓ou_fr, ↓ou_ow, ↓ou_un, ↓ou_of, ↓ou_on, ↓un_00, ↓un_0s, ↓un_s, ↓rk_fr, ↓rk_un, ↓rk_ow, ↓ak_l, ↓lk_l, ↓si_l, ↓ls_0, ↓ls_s, ↓gb_fr, ↓gb_ow, ↓rb_fr, ↓rb_ow, ↓to_0, ↓to_v, ↓to_b, ↓to_map, ↓to_mapn, ↓tb_fr, ↓tb_ow, ↓bk_0, ↓bk_v, ↓bk_bi, ↓ba_0, ↓ba_s, ↓bk_mapf, ↓bk_mapn, ↓bb_fr, ↓bb_ow, ↓ui_un, ↓set_tag, ↓set_tagf, ↓df_0, ↓sp_0, ↓sp_n, ↓sp_s, ↓fs_0, ↓fs_s, ↓fs_map, ↓ct_0, ↓ct_fr, ↓ct_un, ↓ct_ow, ↓ap_00, ↓ap_0s, ↓ap_s, ↓as_0, ↓as_s, ↓in_v, ↓in_b, ↓ib_fr, ↓ib_ow, ↓fl_v, ↓fr_fd, ↓fl_b, ↓fb_fr, ↓fb_ow, ↓get_look, ↓ln_i, ↓sf_fr, ↓sf_ow, ↓mk_r, ↓w_var, ↓w_view, ↓w_lift, ↓w_frz, ↓w_m1, ↓w_m2, ↓w_mV2, ↓w_m2V, ↓w_tst, ↓w_isN, ↓w_notN, ↓bv_bl, ↓w_andV, ↓w_orV, ↓nv_bl, ↓w_notV, ↓w_ch, ↓pt_i, ↓w_part, ↓w_sl, ↓w_slV, ↓w_cal, ↓w_lenV, ↓w_is, ↓w_isO, ↓w_put, ↓w_set, ↓w_move, ↓w_seq, ↓w_asg, ↓w_app, ↓w_setI, ↓w_items, ↓w_gB, ↓w_rB, ↓w_cl, ↓w_callA, ↓w_gStar, ↓w_fld, ↓get_d1, ↓w_mth, ↓w_mthS, ↓w_prp, ↓w_lenO, ↓w_own2, ↓w_ownB, ↓w_augO, ↓w_setF, ↓w_fn, ↓w_mk, ↓w_arg, ↓w_any, ↓w_kw, ↓selR, ↓selA, ↓sQ_0, ↓sQ_s, ↓st_nx, ↓st_ct, ↓st_bk, ↓st_rt, ↓w_lc, ↓g_ixt, ↓g_ixl, ↓g_ixs, ↓at_0, ↓at_1, ↓at_2, ↓at_3, ↓ix_0, ↓ix_1, ↓ix_2, ↓g_addi, ↓g_adds, ↓g_addt, ↓g_addl, ↓g_muli, ↓g_mult, ↓g_mull, ↓g_sub, ↓g_div, ↓g_mod, ↓g_pow, ↓g_bD, ↓g_lt, ↓g_le, ↓g_gt, ↓g_ge, ↓g_neg, ↓g_bl, ↓g_int, ↓g_lent, ↓g_lenl, ↓g_lens, ↓g_list, ↓g_lisl, ↓g_tupt, ↓g_tupl, ↓g_max, ↓g_min, ↓g_itt, ↓g_itl, ↓g_its, ↓g_slt, ↓g_sll, ↓g_sls, ↓g_rng1, ↓g_rng2, ↓g_enum, ↓g_nm, ↓g_tp, ↓g_gc, ↓g_gn, ↓g_isIntD_non, ↓g_isIntD_bl, ↓g_isIntD_int, ↓g_isIntD_str, ↓g_isIntD_tup, ↓g_isIntD_lst, ↓g_isBoolD_non, ↓g_isBoolD_bl, ↓g_isBoolD_int, ↓g_isBoolD_str, ↓g_isBoolD_tup, ↓g_isBoolD_lst, ↓g_isTupD_non, ↓g_isTupD_bl, ↓g_isTupD_int, ↓g_isTupD_str, ↓g_isTupD_tup, ↓g_isTupD_lst, ↓g_isStrD_non, ↓g_isStrD_bl, ↓g_isStrD_int, ↓g_isStrD_str, ↓g_isStrD_tup, ↓g_isStrD_lst, ↓g_own_non, ↓g_own_bl, ↓g_own_int, ↓g_own_str, ↓g_own_tup, ↓g_own_lst, ↓g_own_ins, ↓g_eqi, ↓g_eqs, ↓g_nei, ↓g_nes, ↓p_bnd, ↓p_ret, ↓p_none, ↓p_fr, ↓p_and, ↓p_or, ↓p_not, ↓p_ifE, ↓p_bl, ↓p_nil, ↓p_cons, ↓p_tup, ↓p_lst, ↓p_drop, ↓p_rt, ↓p_mif, ↓p_for, ↓p_gNil, ↓p_gV, ↓p_gApp, ↓p_rV, ↓p_if, cs_un, cs_fr, List.length_cons, List.length_nil, List.length_map, Nat.zero_add, insD_i, decide_eq_true_eq, Bool.not_eq_true', Bool.not_true, Bool.not_false, decide_eq_false_iff_not, true_and, and_true, ne_eq, not_false_eq_true, List.lookup_cons, Nat.reduceAdd, isN_non, isN_bl, isN_int, isN_str, isN_tup, isN_lst, ↓reduceIte]
    have e : ((ps.take ps.length).map fun p => D.int p.1) = (ps.map (·.1)).map .int := by simp
    rw [e]
    refine spots_spec (ms := ps.map (·.1)) ⟨fun m hm => ?_, hp.2⟩ ?_
    · obtain ⟨p, hp1, rfl⟩ := List.mem_map.mp hm
      exact (hp.1 p hp1).1
    · simp (decide := true) only [↓k_some, ↓k_no, ↓k_ite, ↓getK_0, ↓getK_s, ↓setK_0, ↓setK_s, ↓ff_0, ↓ff_s, ↓ff_o, ↓fo_l, ↓fo_i, ↓fk_fr, ↓fk_ow, ↓vk_fr, ↓vk_ow, ↓vw_fr, ↓vw_l, ↓mv_fr, ↓mv_ow, ↓sq_nx, ↓sq_bk, ↓sq_ct, ↓sq_rt, ↓fi_rt, ↓fi_nx, ↓ou_0, ↓ou_fr, ↓ou_ow, ↓ou_un, ↓ou_of, ↓ou_on, ↓un_00, ↓un_0s, ↓un_s, ↓rk_fr, ↓rk_un, ↓rk_ow, ↓ak_l, ↓lk_l, ↓si_l, ↓ls_0, ↓ls_s, ↓gb_fr, ↓gb_ow, ↓rb_fr, ↓rb_ow, ↓to_0, ↓to_v, ↓to_b, ↓to_map, ↓to_mapn, ↓tb_fr, ↓tb_ow, ↓bk_0, ↓bk_v, ↓bk_bi, ↓ba_0, ↓ba_s, ↓bk_mapf, ↓bk_mapn, ↓bb_fr, ↓bb_ow, ↓ui_un, ↓set_tag, ↓set_tagf, ↓df_0, ↓sp_0, ↓sp_n, ↓sp_s, ↓fs_0, ↓fs_s, ↓fs_map, ↓ct_0, ↓ct_fr, ↓ct_un, ↓ct_ow, ↓ap_00, ↓ap_0s, ↓ap_s, ↓as_0, ↓as_s, ↓in_v, ↓in_b, ↓ib_fr, ↓ib_ow, ↓fl_v, ↓fr_fd, ↓fl_b, ↓fb_fr, ↓fb_ow, ↓get_look, ↓ln_i, ↓sf_fr, ↓sf_ow, ↓mk_r, ↓w_var, ↓w_view, ↓w_lift, ↓w_frz, ↓w_m1, ↓w_m2, ↓w_mV2, ↓w_m2V, ↓w_tst, ↓w_isN, ↓w_notN, ↓bv_bl, ↓w_andV, ↓w_orV, ↓nv_bl, ↓w_notV, ↓w_ch, ↓pt_i, ↓w_part, ↓w_sl, ↓w_slV, ↓w_cal, ↓w_lenV, ↓w_is, ↓w_isO, ↓w_put, ↓w_set, ↓w_move, ↓w_seq, ↓w_asg, ↓w_app, ↓w_setI, ↓w_items, ↓w_gB, ↓w_rB, ↓w_cl, ↓w_callA, ↓w_gStar, ↓w_fld, ↓get_d1, ↓w_mth, ↓w_mthS, ↓w_prp, ↓w_lenO, ↓w_own2, ↓w_ownB, ↓w_augO, ↓w_setF, ↓w_fn, ↓w_mk, ↓w_arg, ↓w_any, ↓w_kw, ↓selR, ↓selA, ↓sQ_0, ↓sQ_s, ↓st_nx, ↓st_ct, ↓st_bk, ↓st_rt, ↓w_lc, ↓g_ixt, ↓g_ixl, ↓g_ixs, ↓at_0, ↓at_1, ↓at_2, ↓at_3, ↓ix_0, ↓ix_1, ↓ix_2, ↓g_addi, ↓g_adds, ↓g_addt, ↓g_addl, ↓g_muli, ↓g_mult, ↓g_mull, ↓g_sub, ↓g_div, ↓g_mod, ↓g_pow, ↓g_bD, ↓g_lt, ↓g_le, ↓g_gt, ↓g_ge, ↓g_neg, ↓g_bl, ↓g_int, ↓g_lent, ↓g_lenl, ↓g_lens, ↓g_list, ↓g_lisl, ↓g_tupt, ↓g_tupl, ↓g_max, ↓g_min, ↓g_itt, ↓g_itl, ↓g_its, ↓g_slt, ↓g_sll, ↓g_sls, ↓g_rng1, ↓g_rng2, ↓g_enum, ↓g_nm, ↓g_tp, ↓g_gc, ↓g_gn, ↓g_isIntD_non, ↓g_isIntD_bl, ↓g_isIntD_int, ↓g_isIntD_str, ↓g_isIntD_tup, ↓g_isIntD_lst, ↓g_isBoolD_non, ↓g_isBoolD_bl, ↓g_isBoolD_int, ↓g_isBoolD_str, ↓g_isBoolD_tup, ↓g_isBoolD_lst, ↓g_isTupD_non, ↓g_isTupD_bl, ↓g_isTupD_int, ↓g_isTupD_str, ↓g_isTupD_tup, ↓g_isTupD_lst, ↓g_isStrD_non, ↓g_isStrD_bl, ↓g_isStrD_int, ↓g_isStrD_str, ↓g_isStrD_tup, ↓g_isStrD_lst, ↓g_own_non, ↓g_own_bl, ↓g_own_int, ↓g_own_str, ↓g_own_tup, ↓g_own_lst, ↓g_own_ins, ↓g_eqi, ↓g_eqs, ↓g_nei, ↓g_nes, ↓p_bnd, ↓p_ret, ↓p_none, ↓p_fr, ↓p_and, ↓p_or, ↓p_not, ↓p_ifE, ↓p_bl, ↓p_nil, ↓p_cons, ↓p_tup, ↓p_lst, ↓p_drop, ↓p_rt, ↓p_mif, ↓p_for, ↓p_gNil, ↓p_gV, ↓p_gApp, ↓p_rV, ↓p_if, cs_un, cs_fr, List.length_cons, List.length_nil, List.length_map, Nat.zero_add, insD_i, decide_eq_true_eq, Bool.not_eq_true', Bool.not_true, Bool.not_false, decide_eq_false_iff_not, true_and, and_true, ne_eq, not_false_eq_true, List.lookup_cons, Nat.reduceAdd, isN_non, isN_bl, isN_int, isN_str, isN_tup, isN_lst, ↓reduceIte]
      exact h
theorem fits_spec {t : List D} {d : D} {Q : Sl → List Sl → Prop} (ht : IsTree t) (hg : Gate t.length d) (h : Q (.fr (.bl true)) [.fr (.tup t), .fr d]) : PostF (f_door_fits Z) [.fr (.tup t), .fr d] Q := by
  unfold f_door_fits b_door_fits
  cases hg with
  | head ws hw hl =>
    simp (decide := true) only [↓k_some, ↓k_no, ↓k_ite, ↓getK_0, ↓getK_s, ↓setK_0, ↓setK_s, ↓ff_0, ↓ff_s, ↓ff_o, ↓fo_l, ↓fo_i, ↓fk_fr, ↓fk_ow, ↓vk_fr, ↓vk_ow, ↓vw_fr, ↓vw_l, ↓mv_fr, ↓mv_ow, ↓sq_nx, ↓sq_bk, ↓sq_ct, ↓sq_rt, ↓fi_rt, ↓fi_nx, ↓ou_0, ↓ou_fr, ↓ou_ow, ↓ou_un, ↓ou_of, ↓ou_on, ↓un_00, ↓un_0s, ↓un_s, ↓rk_fr, ↓rk_un, ↓rk_ow, ↓ak_l, ↓lk_l, ↓si_l, ↓ls_0, ↓ls_s, ↓gb_fr, ↓gb_ow, ↓rb_fr, ↓rb_ow, ↓to_0, ↓to_v, ↓to_b, ↓to_map, ↓to_mapn, ↓tb_fr, ↓tb_ow, ↓bk_0, ↓bk_v, ↓bk_bi, ↓ba_0, ↓ba_s, ↓bk_mapf, ↓bk_mapn, ↓bb_fr, ↓bb_ow, ↓ui_un, ↓set_tag, ↓set_tagf, ↓df_0, ↓sp_0, ↓sp_n, ↓sp_s, ↓fs_0, ↓fs_s, ↓fs_map, ↓ct_0, ↓ct_fr, ↓ct_un, ↓ct_ow, ↓ap_00, ↓ap_0s, ↓ap_s, ↓as_0, ↓as_s, ↓in_v, ↓in_b, ↓ib_fr, ↓ib_ow, ↓fl_v, ↓fr_fd, ↓fl_b, ↓fb_fr, ↓fb_ow, ↓get_look, ↓ln_i, ↓sf_fr, ↓sf_ow, ↓mk_r, ↓w_var, ↓w_view, ↓w_lift, ↓w_frz, ↓w_m1, ↓w_m2, ↓w_mV2, ↓w_m2V, ↓w_tst, ↓w_isN, ↓w_notN, ↓bv_bl, ↓w_andV, ↓w_orV, ↓nv_bl, ↓w_notV, ↓w_ch, ↓pt_i, ↓w_part, ↓w_sl, ↓w_slV, ↓w_cal, ↓w_lenV, ↓w_is, ↓w_isO, ↓w_put, ↓w_set, ↓w_move, ↓w_seq, ↓w_asg, ↓w_app, ↓w_setI, ↓w_items, ↓w_gB, ↓w_rB, ↓w_cl, ↓w_callA, ↓w_gStar, ↓w_fld, ↓get_d1, ↓w_mth, ↓w_mthS, ↓w_prp, ↓w_lenO, ↓w_own2, ↓w_ownB, ↓w_augO, ↓w_setF, ↓w_fn, ↓w_mk, ↓w_arg, ↓w_any, ↓w_kw, ↓selR, ↓selA, ↓sQ_0, ↓sQ_s, ↓st_nx, ↓st_ct, ↓st_bk, ↓st_rt, ↓w_lc, ↓g_ixt, ↓g_ixl, ↓g_ixs, ↓at_0, ↓at_1, ↓at_2, ↓at_3, ↓ix_0, ↓ix_1, ↓ix_2, ↓g_addi, ↓g_adds, ↓g_addt, ↓g_addl, ↓g_muli, ↓g_mult, ↓g_mull, ↓g_sub, ↓g_div, ↓g_mod, ↓g_pow, ↓g_bD, ↓g_lt, ↓g_le, ↓g_gt, ↓g_ge, ↓g_neg, ↓g_bl, ↓g_int, ↓g_lent, ↓g_lenl, ↓g_lens, ↓g_list, ↓g_lisl, ↓g_tupt, ↓g_tupl, ↓g_max, ↓g_min, ↓g_itt, ↓g_itl, ↓g_its, ↓g_slt, ↓g_sll, ↓g_sls, ↓g_rng1, ↓g_rng2, ↓g_enum, ↓g_nm, ↓g_tp, ↓g_gc, ↓g_gn, ↓g_isIntD_non, ↓g_isIntD_bl, ↓g_isIntD_int, ↓g_isIntD_str, ↓g_isIntD_tup, ↓g_isIntD_lst, ↓g_isBoolD_non, ↓g_isBoolD_bl, ↓g_isBoolD_int, ↓g_isBoolD_str, ↓g_isBoolD_tup, ↓g_isBoolD_lst, ↓g_isTupD_non, ↓g_isTupD_bl, ↓g_isTupD_int, ↓g_isTupD_str, ↓g_isTupD_tup, ↓g_isTupD_lst, ↓g_isStrD_non, ↓g_isStrD_bl, ↓g_isStrD_int, ↓g_isStrD_str, ↓g_isStrD_tup, ↓g_isStrD_lst, ↓g_own_non, ↓g_own_bl, ↓g_own_int, ↓g_own_str, ↓g_own_tup, ↓g_own_lst, ↓g_own_ins, ↓g_eqi, ↓g_eqs, ↓g_nei, ↓g_nes, ↓p_bnd, ↓p_ret, ↓p_none, ↓p_fr, ↓p_and, ↓p_or, ↓p_not, ↓p_ifE, ↓p_bl, ↓p_nil, ↓p_cons, ↓p_tup, ↓p_lst, ↓p_drop, ↓p_rt, ↓p_mif, ↓p_for, ↓p_gNil, ↓p_gV, ↓p_gApp, ↓p_rV, ↓p_if, cs_un, cs_fr, List.length_cons, List.length_nil, List.length_map, Nat.zero_add, insD_i, decide_eq_true_eq, Bool.not_eq_true', Bool.not_true, Bool.not_false, decide_eq_false_iff_not, true_and, and_true, ne_eq, not_false_eq_true, List.lookup_cons, Nat.reduceAdd, isN_non, isN_bl, isN_int, isN_str, isN_tup, isN_lst, ↓reduceIte]
    refine ⟨⟨by decide +kernel, by decide +kernel⟩, ⟨by decide +kernel, by decide +kernel⟩, ⟨by decide +kernel, by decide +kernel⟩, ⟨by decide +kernel, by decide +kernel⟩, iswishes_spec ht hw ?_⟩
    simp (decide := true) only [↓k_some, ↓k_no, ↓k_ite, ↓getK_0, ↓getK_s, ↓setK_0, ↓setK_s, ↓ff_0, ↓ff_s, ↓ff_o, ↓fo_l, ↓fo_i, ↓fk_fr, ↓fk_ow, ↓vk_fr, ↓vk_ow, ↓vw_fr, ↓vw_l, ↓mv_fr, ↓mv_ow, ↓sq_nx, ↓sq_bk, ↓sq_ct, ↓sq_rt, ↓fi_rt, ↓fi_nx, ↓ou_0, ↓ou_fr, ↓ou_ow, ↓ou_un, ↓ou_of, ↓ou_on, ↓un_00, ↓un_0s, ↓un_s, ↓rk_fr, ↓rk_un, ↓rk_ow, ↓ak_l, ↓lk_l, ↓si_l, ↓ls_0, ↓ls_s, ↓gb_fr, ↓gb_ow, ↓rb_fr, ↓rb_ow, ↓to_0, ↓to_v, ↓to_b, ↓to_map, ↓to_mapn, ↓tb_fr, ↓tb_ow, ↓bk_0, ↓bk_v, ↓bk_bi, ↓ba_0, ↓ba_s, ↓bk_mapf, ↓bk_mapn, ↓bb_fr, ↓bb_ow, ↓ui_un, ↓set_tag, ↓set_tagf, ↓df_0, ↓sp_0, ↓sp_n, ↓sp_s, ↓fs_0, ↓fs_s, ↓fs_map, ↓ct_0, ↓ct_fr, ↓ct_un, ↓ct_ow, ↓ap_00, ↓ap_0s, ↓ap_s, ↓as_0, ↓as_s, ↓in_v, ↓in_b, ↓ib_fr, ↓ib_ow, ↓fl_v, ↓fr_fd, ↓fl_b, ↓fb_fr, ↓fb_ow, ↓get_look, ↓ln_i, ↓sf_fr, ↓sf_ow, ↓mk_r, ↓w_var, ↓w_view, ↓w_lift, ↓w_frz, ↓w_m1, ↓w_m2, ↓w_mV2, ↓w_m2V, ↓w_tst, ↓w_isN, ↓w_notN, ↓bv_bl, ↓w_andV, ↓w_orV, ↓nv_bl, ↓w_notV, ↓w_ch, ↓pt_i, ↓w_part, ↓w_sl, ↓w_slV, ↓w_cal, ↓w_lenV, ↓w_is, ↓w_isO, ↓w_put, ↓w_set, ↓w_move, ↓w_seq, ↓w_asg, ↓w_app, ↓w_setI, ↓w_items, ↓w_gB, ↓w_rB, ↓w_cl, ↓w_callA, ↓w_gStar, ↓w_fld, ↓get_d1, ↓w_mth, ↓w_mthS, ↓w_prp, ↓w_lenO, ↓w_own2, ↓w_ownB, ↓w_augO, ↓w_setF, ↓w_fn, ↓w_mk, ↓w_arg, ↓w_any, ↓w_kw, ↓selR, ↓selA, ↓sQ_0, ↓sQ_s, ↓st_nx, ↓st_ct, ↓st_bk, ↓st_rt, ↓w_lc, ↓g_ixt, ↓g_ixl, ↓g_ixs, ↓at_0, ↓at_1, ↓at_2, ↓at_3, ↓ix_0, ↓ix_1, ↓ix_2, ↓g_addi, ↓g_adds, ↓g_addt, ↓g_addl, ↓g_muli, ↓g_mult, ↓g_mull, ↓g_sub, ↓g_div, ↓g_mod, ↓g_pow, ↓g_bD, ↓g_lt, ↓g_le, ↓g_gt, ↓g_ge, ↓g_neg, ↓g_bl, ↓g_int, ↓g_lent, ↓g_lenl, ↓g_lens, ↓g_list, ↓g_lisl, ↓g_tupt, ↓g_tupl, ↓g_max, ↓g_min, ↓g_itt, ↓g_itl, ↓g_its, ↓g_slt, ↓g_sll, ↓g_sls, ↓g_rng1, ↓g_rng2, ↓g_enum, ↓g_nm, ↓g_tp, ↓g_gc, ↓g_gn, ↓g_isIntD_non, ↓g_isIntD_bl, ↓g_isIntD_int, ↓g_isIntD_str, ↓g_isIntD_tup, ↓g_isIntD_lst, ↓g_isBoolD_non, ↓g_isBoolD_bl, ↓g_isBoolD_int, ↓g_isBoolD_str, ↓g_isBoolD_tup, ↓g_isBoolD_lst, ↓g_isTupD_non, ↓g_isTupD_bl, ↓g_isTupD_int, ↓g_isTupD_str, ↓g_isTupD_tup, ↓g_isTupD_lst, ↓g_isStrD_non, ↓g_isStrD_bl, ↓g_isStrD_int, ↓g_isStrD_str, ↓g_isStrD_tup, ↓g_isStrD_lst, ↓g_own_non, ↓g_own_bl, ↓g_own_int, ↓g_own_str, ↓g_own_tup, ↓g_own_lst, ↓g_own_ins, ↓g_eqi, ↓g_eqs, ↓g_nei, ↓g_nes, ↓p_bnd, ↓p_ret, ↓p_none, ↓p_fr, ↓p_and, ↓p_or, ↓p_not, ↓p_ifE, ↓p_bl, ↓p_nil, ↓p_cons, ↓p_tup, ↓p_lst, ↓p_drop, ↓p_rt, ↓p_mif, ↓p_for, ↓p_gNil, ↓p_gV, ↓p_gApp, ↓p_rV, ↓p_if, cs_un, cs_fr, List.length_cons, List.length_nil, List.length_map, Nat.zero_add, insD_i, decide_eq_true_eq, Bool.not_eq_true', Bool.not_true, Bool.not_false, decide_eq_false_iff_not, true_and, and_true, ne_eq, not_false_eq_true, List.lookup_cons, Nat.reduceAdd, isN_non, isN_bl, isN_int, isN_str, isN_tup, isN_lst, ↓reduceIte]
    exact h
  | pad ws hw hl =>
    simp (decide := true) only [↓k_some, ↓k_no, ↓k_ite, ↓getK_0, ↓getK_s, ↓setK_0, ↓setK_s, ↓ff_0, ↓ff_s, ↓ff_o, ↓fo_l, ↓fo_i, ↓fk_fr, ↓fk_ow, ↓vk_fr, ↓vk_ow, ↓vw_fr, ↓vw_l, ↓mv_fr, ↓mv_ow, ↓sq_nx, ↓sq_bk, ↓sq_ct, ↓sq_rt, ↓fi_rt, ↓fi_nx, ↓ou_0, ↓ou_fr, ↓ou_ow, ↓ou_un, ↓ou_of, ↓ou_on, ↓un_00, ↓un_0s, ↓un_s, ↓rk_fr, ↓rk_un, ↓rk_ow, ↓ak_l, ↓lk_l, ↓si_l, ↓ls_0, ↓ls_s, ↓gb_fr, ↓gb_ow, ↓rb_fr, ↓rb_ow, ↓to_0, ↓to_v, ↓to_b, ↓to_map, ↓to_mapn, ↓tb_fr, ↓tb_ow, ↓bk_0, ↓bk_v, ↓bk_bi, ↓ba_0, ↓ba_s, ↓bk_mapf, ↓bk_mapn, ↓bb_fr, ↓bb_ow, ↓ui_un, ↓set_tag, ↓set_tagf, ↓df_0, ↓sp_0, ↓sp_n, ↓sp_s, ↓fs_0, ↓fs_s, ↓fs_map, ↓ct_0, ↓ct_fr, ↓ct_un, ↓ct_ow, ↓ap_00, ↓ap_0s, ↓ap_s, ↓as_0, ↓as_s, ↓in_v, ↓in_b, ↓ib_fr, ↓ib_ow, ↓fl_v, ↓fr_fd, ↓fl_b, ↓fb_fr, ↓fb_ow, ↓get_look, ↓ln_i, ↓sf_fr, ↓sf_ow, ↓mk_r, ↓w_var, ↓w_view, ↓w_lift, ↓w_frz, ↓w_m1, ↓w_m2, ↓w_mV2, ↓w_m2V, ↓w_tst, ↓w_isN, ↓w_notN, ↓bv_bl, ↓w_andV, ↓w_orV, ↓nv_bl, ↓w_notV, ↓w_ch, ↓pt_i, ↓w_part, ↓w_sl, ↓w_slV, ↓w_cal, ↓w_lenV, ↓w_is, ↓w_isO, ↓w_put, ↓w_set, ↓w_move, ↓w_seq, ↓w_asg, ↓w_app, ↓w_setI, ↓w_items, ↓w_gB, ↓w_rB, ↓w_cl, ↓w_callA, ↓w_gStar, ↓w_fld, ↓get_d1, ↓w_mth, ↓w_mthS, ↓w_prp, ↓w_lenO, ↓w_own2, ↓w_ownB, ↓w_augO, ↓w_setF, ↓w_fn, ↓w_mk, ↓w_arg, ↓w_any, ↓w_kw, ↓selR, ↓selA, ↓sQ_0, ↓sQ_s, ↓st_nx, ↓st_ct, ↓st_bk, ↓st_rt, ↓w_lc, ↓g_ixt, ↓g_ixl, ↓g_ixs, ↓at_0, ↓at_1, ↓at_2, ↓at_3, ↓ix_0, ↓ix_1, ↓ix_2, ↓g_addi, ↓g_adds, ↓g_addt, ↓g_addl, ↓g_muli, ↓g_mult, ↓g_mull, ↓g_sub, ↓g_div, ↓g_mod, ↓g_pow, ↓g_bD, ↓g_lt, ↓g_le, ↓g_gt, ↓g_ge, ↓g_neg, ↓g_bl, ↓g_int, ↓g_lent, ↓g_lenl, ↓g_lens, ↓g_list, ↓g_lisl, ↓g_tupt, ↓g_tupl, ↓g_max, ↓g_min, ↓g_itt, ↓g_itl, ↓g_its, ↓g_slt, ↓g_sll, ↓g_sls, ↓g_rng1, ↓g_rng2, ↓g_enum, ↓g_nm, ↓g_tp, ↓g_gc, ↓g_gn, ↓g_isIntD_non, ↓g_isIntD_bl, ↓g_isIntD_int, ↓g_isIntD_str, ↓g_isIntD_tup, ↓g_isIntD_lst, ↓g_isBoolD_non, ↓g_isBoolD_bl, ↓g_isBoolD_int, ↓g_isBoolD_str, ↓g_isBoolD_tup, ↓g_isBoolD_lst, ↓g_isTupD_non, ↓g_isTupD_bl, ↓g_isTupD_int, ↓g_isTupD_str, ↓g_isTupD_tup, ↓g_isTupD_lst, ↓g_isStrD_non, ↓g_isStrD_bl, ↓g_isStrD_int, ↓g_isStrD_str, ↓g_isStrD_tup, ↓g_isStrD_lst, ↓g_own_non, ↓g_own_bl, ↓g_own_int, ↓g_own_str, ↓g_own_tup, ↓g_own_lst, ↓g_own_ins, ↓g_eqi, ↓g_eqs, ↓g_nei, ↓g_nes, ↓p_bnd, ↓p_ret, ↓p_none, ↓p_fr, ↓p_and, ↓p_or, ↓p_not, ↓p_ifE, ↓p_bl, ↓p_nil, ↓p_cons, ↓p_tup, ↓p_lst, ↓p_drop, ↓p_rt, ↓p_mif, ↓p_for, ↓p_gNil, ↓p_gV, ↓p_gApp, ↓p_rV, ↓p_if, cs_un, cs_fr, List.length_cons, List.length_nil, List.length_map, Nat.zero_add, insD_i, decide_eq_true_eq, Bool.not_eq_true', Bool.not_true, Bool.not_false, decide_eq_false_iff_not, true_and, and_true, ne_eq, not_false_eq_true, List.lookup_cons, Nat.reduceAdd, isN_non, isN_bl, isN_int, isN_str, isN_tup, isN_lst, ↓reduceIte]
    refine ⟨⟨by decide +kernel, by decide +kernel⟩, ⟨by decide +kernel, by decide +kernel⟩, ⟨by decide +kernel, by decide +kernel⟩, ⟨by decide +kernel, by decide +kernel⟩, ⟨by decide +kernel, by decide +kernel⟩, iswishes_spec ht hw ?_⟩
    simp (decide := true) only [↓k_some, ↓k_no, ↓k_ite, ↓getK_0, ↓getK_s, ↓setK_0, ↓setK_s, ↓ff_0, ↓ff_s, ↓ff_o, ↓fo_l, ↓fo_i, ↓fk_fr, ↓fk_ow, ↓vk_fr, ↓vk_ow, ↓vw_fr, ↓vw_l, ↓mv_fr, ↓mv_ow, ↓sq_nx, ↓sq_bk, ↓sq_ct, ↓sq_rt, ↓fi_rt, ↓fi_nx, ↓ou_0, ↓ou_fr, ↓ou_ow, ↓ou_un, ↓ou_of, ↓ou_on, ↓un_00, ↓un_0s, ↓un_s, ↓rk_fr, ↓rk_un, ↓rk_ow, ↓ak_l, ↓lk_l, ↓si_l, ↓ls_0, ↓ls_s, ↓gb_fr, ↓gb_ow, ↓rb_fr, ↓rb_ow, ↓to_0, ↓to_v, ↓to_b, ↓to_map, ↓to_mapn, ↓tb_fr, ↓tb_ow, ↓bk_0, ↓bk_v, ↓bk_bi, ↓ba_0, ↓ba_s, ↓bk_mapf, ↓bk_mapn, ↓bb_fr, ↓bb_ow, ↓ui_un, ↓set_tag, ↓set_tagf, ↓df_0, ↓sp_0, ↓sp_n, ↓sp_s, ↓fs_0, ↓fs_s, ↓fs_map, ↓ct_0, ↓ct_fr, ↓ct_un, ↓ct_ow, ↓ap_00, ↓ap_0s, ↓ap_s, ↓as_0, ↓as_s, ↓in_v, ↓in_b, ↓ib_fr, ↓ib_ow, ↓fl_v, ↓fr_fd, ↓fl_b, ↓fb_fr, ↓fb_ow, ↓get_look, ↓ln_i, ↓sf_fr, ↓sf_ow, ↓mk_r, ↓w_var, ↓w_view, ↓w_lift, ↓w_frz, ↓w_m1, ↓w_m2, ↓w_mV2, ↓w_m2V, ↓w_tst, ↓w_isN, ↓w_notN, ↓bv_bl, ↓w_andV, ↓w_orV, ↓nv_bl, ↓w_notV, ↓w_ch, ↓pt_i, ↓w_part, ↓w_sl, ↓w_slV, ↓w_cal, ↓w_lenV, ↓w_is, ↓w_isO, ↓w_put, ↓w_set, ↓w_move, ↓w_seq, ↓w_asg, ↓w_app, ↓w_setI, ↓w_items, ↓w_gB, ↓w_rB, ↓w_cl, ↓w_callA, ↓w_gStar, ↓w_fld, ↓get_d1, ↓w_mth, ↓w_mthS, ↓w_prp, ↓w_lenO, ↓w_own2, ↓w_ownB, ↓w_augO, ↓w_setF, ↓w_fn, ↓w_mk, ↓w_arg, ↓w_any, ↓w_kw, ↓selR, ↓selA, ↓sQ_0, ↓sQ_s, ↓st_nx, ↓st_ct, ↓st_bk, ↓st_rt, ↓w_lc, ↓g_ixt, ↓g_ixl, ↓g_ixs, ↓at_0, ↓at_1, ↓at_2, ↓at_3, ↓ix_0, ↓ix_1, ↓ix_2, ↓g_addi, ↓g_adds, ↓g_addt, ↓g_addl, ↓g_muli, ↓g_mult, ↓g_mull, ↓g_sub, ↓g_div, ↓g_mod, ↓g_pow, ↓g_bD, ↓g_lt, ↓g_le, ↓g_gt, ↓g_ge, ↓g_neg, ↓g_bl, ↓g_int, ↓g_lent, ↓g_lenl, ↓g_lens, ↓g_list, ↓g_lisl, ↓g_tupt, ↓g_tupl, ↓g_max, ↓g_min, ↓g_itt, ↓g_itl, ↓g_its, ↓g_slt, ↓g_sll, ↓g_sls, ↓g_rng1, ↓g_rng2, ↓g_enum, ↓g_nm, ↓g_tp, ↓g_gc, ↓g_gn, ↓g_isIntD_non, ↓g_isIntD_bl, ↓g_isIntD_int, ↓g_isIntD_str, ↓g_isIntD_tup, ↓g_isIntD_lst, ↓g_isBoolD_non, ↓g_isBoolD_bl, ↓g_isBoolD_int, ↓g_isBoolD_str, ↓g_isBoolD_tup, ↓g_isBoolD_lst, ↓g_isTupD_non, ↓g_isTupD_bl, ↓g_isTupD_int, ↓g_isTupD_str, ↓g_isTupD_tup, ↓g_isTupD_lst, ↓g_isStrD_non, ↓g_isStrD_bl, ↓g_isStrD_int, ↓g_isStrD_str, ↓g_isStrD_tup, ↓g_isStrD_lst, ↓g_own_non, ↓g_own_bl, ↓g_own_int, ↓g_own_str, ↓g_own_tup, ↓g_own_lst, ↓g_own_ins, ↓g_eqi, ↓g_eqs, ↓g_nei, ↓g_nes, ↓p_bnd, ↓p_ret, ↓p_none, ↓p_fr, ↓p_and, ↓p_or, ↓p_not, ↓p_ifE, ↓p_bl, ↓p_nil, ↓p_cons, ↓p_tup, ↓p_lst, ↓p_drop, ↓p_rt, ↓p_mif, ↓p_for, ↓p_gNil, ↓p_gV, ↓p_gApp, ↓p_rV, ↓p_if, cs_un, cs_fr, List.length_cons, List.length_nil, List.length_map, Nat.zero_add, insD_i, decide_eq_true_eq, Bool.not_eq_true', Bool.not_true, Bool.not_false, decide_eq_false_iff_not, true_and, and_true, ne_eq, not_false_eq_true, List.lookup_cons, Nat.reduceAdd, isN_non, isN_bl, isN_int, isN_str, isN_tup, isN_lst, ↓reduceIte]
    exact h
  | only ms hw hl =>
    simp (decide := true) only [↓k_some, ↓k_no, ↓k_ite, ↓getK_0, ↓getK_s, ↓setK_0, ↓setK_s, ↓ff_0, ↓ff_s, ↓ff_o, ↓fo_l, ↓fo_i, ↓fk_fr, ↓fk_ow, ↓vk_fr, ↓vk_ow, ↓vw_fr, ↓vw_l, ↓mv_fr, ↓mv_ow, ↓sq_nx, ↓sq_bk, ↓sq_ct, ↓sq_rt, ↓fi_rt, ↓fi_nx, ↓ou_0, ↓ou_fr, ↓ou_ow, ↓ou_un, ↓ou_of, ↓ou_on, ↓un_00, ↓un_0s, ↓un_s, ↓rk_fr, ↓rk_un, ↓rk_ow, ↓ak_l, ↓lk_l, ↓si_l, ↓ls_0, ↓ls_s, ↓gb_fr, ↓gb_ow, ↓rb_fr, ↓rb_ow, ↓to_0, ↓to_v, ↓to_b, ↓to_map, ↓to_mapn, ↓tb_fr, ↓tb_ow, ↓bk_0, ↓bk_v, ↓bk_bi, ↓ba_0, ↓ba_s, ↓bk_mapf, ↓bk_mapn, ↓bb_fr, ↓bb_ow, ↓ui_un, ↓set_tag, ↓set_tagf, ↓df_0, ↓sp_0, ↓sp_n, ↓sp_s, ↓fs_0, ↓fs_s, ↓fs_map, ↓ct_0, ↓ct_fr, ↓ct_un, ↓ct_ow, ↓ap_00, ↓ap_0s, ↓ap_s, ↓as_0, ↓as_s, ↓in_v, ↓in_b, ↓ib_fr, ↓ib_ow, ↓fl_v, ↓fr_fd, ↓fl_b, ↓fb_fr, ↓fb_ow, ↓get_look, ↓ln_i, ↓sf_fr, ↓sf_ow, ↓mk_r, ↓w_var, ↓w_view, ↓w_lift, ↓w_frz, ↓w_m1, ↓w_m2, ↓w_mV2, ↓w_m2V, ↓w_tst, ↓w_isN, ↓w_notN, ↓bv_bl, ↓w_andV, ↓w_orV, ↓nv_bl, ↓w_notV, ↓w_ch, ↓pt_i, ↓w_part, ↓w_sl, ↓w_slV, ↓w_cal, ↓w_lenV, ↓w_is, ↓w_isO, ↓w_put, ↓w_set, ↓w_move, ↓w_seq, ↓w_asg, ↓w_app, ↓w_setI, ↓w_items, ↓w_gB, ↓w_rB, ↓w_cl, ↓w_callA, ↓w_gStar, ↓w_fld, ↓get_d1, ↓w_mth, ↓w_mthS, ↓w_prp, ↓w_lenO, ↓w_own2, ↓w_ownB, ↓w_augO, ↓w_setF, ↓w_fn, ↓w_mk, ↓w_arg, ↓w_any, ↓w_kw, ↓selR, ↓selA, ↓sQ_0, ↓sQ_s, ↓st_nx, ↓st_ct, ↓st_bk, ↓st_rt, ↓w_lc, ↓g_ixt, ↓g_ixl, ↓g_ixs, ↓at_0, ↓at_1, ↓at_2, ↓at_3, ↓ix_0, ↓ix_1, ↓ix_2, ↓g_addi, ↓g_adds, ↓g_addt, ↓g_addl, ↓g_muli, ↓g_mult, ↓g_mull, ↓g_sub, ↓g_div, ↓g_mod, ↓g_pow, ↓g_bD, ↓g_lt, ↓g_le, ↓g_gt, ↓g_ge, ↓g_neg, ↓g_bl, ↓g_int, ↓g_lent, ↓g_lenl, ↓g_lens, ↓g_list, ↓g_lisl, ↓g_tupt, ↓g_tupl, ↓g_max, ↓g_min, ↓g_itt, ↓g_itl, ↓g_its, ↓g_slt, ↓g_sll, ↓g_sls, ↓g_rng1, ↓g_rng2, ↓g_enum, ↓g_nm, ↓g_tp, ↓g_gc, ↓g_gn, ↓g_isIntD_non, ↓g_isIntD_bl, ↓g_isIntD_int, ↓g_isIntD_str, ↓g_isIntD_tup, ↓g_isIntD_lst, ↓g_isBoolD_non, ↓g_isBoolD_bl, ↓g_isBoolD_int, ↓g_isBoolD_str, ↓g_isBoolD_tup, ↓g_isBoolD_lst, ↓g_isTupD_non, ↓g_isTupD_bl, ↓g_isTupD_int, ↓g_isTupD_str, ↓g_isTupD_tup, ↓g_isTupD_lst, ↓g_isStrD_non, ↓g_isStrD_bl, ↓g_isStrD_int, ↓g_isStrD_str, ↓g_isStrD_tup, ↓g_isStrD_lst, ↓g_own_non, ↓g_own_bl, ↓g_own_int, ↓g_own_str, ↓g_own_tup, ↓g_own_lst, ↓g_own_ins, ↓g_eqi, ↓g_eqs, ↓g_nei, ↓g_nes, ↓p_bnd, ↓p_ret, ↓p_none, ↓p_fr, ↓p_and, ↓p_or, ↓p_not, ↓p_ifE, ↓p_bl, ↓p_nil, ↓p_cons, ↓p_tup, ↓p_lst, ↓p_drop, ↓p_rt, ↓p_mif, ↓p_for, ↓p_gNil, ↓p_gV, ↓p_gApp, ↓p_rV, ↓p_if, cs_un, cs_fr, List.length_cons, List.length_nil, List.length_map, Nat.zero_add, insD_i, decide_eq_true_eq, Bool.not_eq_true', Bool.not_true, Bool.not_false, decide_eq_false_iff_not, true_and, and_true, ne_eq, not_false_eq_true, List.lookup_cons, Nat.reduceAdd, isN_non, isN_bl, isN_int, isN_str, isN_tup, isN_lst, ↓reduceIte]
    refine ⟨⟨by decide +kernel, by decide +kernel⟩, spots_spec hw ?_⟩
    simp (decide := true) only [↓k_some, ↓k_no, ↓k_ite, ↓getK_0, ↓getK_s, ↓setK_0, ↓setK_s, ↓ff_0, ↓ff_s, ↓ff_o, ↓fo_l, ↓fo_i, ↓fk_fr, ↓fk_ow, ↓vk_fr, ↓vk_ow, ↓vw_fr, ↓vw_l, ↓mv_fr, ↓mv_ow, ↓sq_nx, ↓sq_bk, ↓sq_ct, ↓sq_rt, ↓fi_rt, ↓fi_nx, ↓ou_0, ↓ou_fr, ↓ou_ow, ↓ou_un, ↓ou_of, ↓ou_on, ↓un_00, ↓un_0s, ↓un_s, ↓rk_fr, ↓rk_un, ↓rk_ow, ↓ak_l, ↓lk_l, ↓si_l, ↓ls_0, ↓ls_s, ↓gb_fr, ↓gb_ow, ↓rb_fr, ↓rb_ow, ↓to_0, ↓to_v, ↓to_b, ↓to_map, ↓to_mapn, ↓tb_fr, ↓tb_ow, ↓bk_0, ↓bk_v, ↓bk_bi, ↓ba_0, ↓ba_s, ↓bk_mapf, ↓bk_mapn, ↓bb_fr, ↓bb_ow, ↓ui_un, ↓set_tag, ↓set_tagf, ↓df_0, ↓sp_0, ↓sp_n, ↓sp_s, ↓fs_0, ↓fs_s, ↓fs_map, ↓ct_0, ↓ct_fr, ↓ct_un, ↓ct_ow, ↓ap_00, ↓ap_0s, ↓ap_s, ↓as_0, ↓as_s, ↓in_v, ↓in_b, ↓ib_fr, ↓ib_ow, ↓fl_v, ↓fr_fd, ↓fl_b, ↓fb_fr, ↓fb_ow, ↓get_look, ↓ln_i, ↓sf_fr, ↓sf_ow, ↓mk_r, ↓w_var, ↓w_view, ↓w_lift, ↓w_frz, ↓w_m1, ↓w_m2, ↓w_mV2, ↓w_m2V, ↓w_tst, ↓w_isN, ↓w_notN, ↓bv_bl, ↓w_andV, ↓w_orV, ↓nv_bl, ↓w_notV, ↓w_ch, ↓pt_i, ↓w_part, ↓w_sl, ↓w_slV, ↓w_cal, ↓w_lenV, ↓w_is, ↓w_isO, ↓w_put, ↓w_set, ↓w_move, ↓w_seq, ↓w_asg, ↓w_app, ↓w_setI, ↓w_items, ↓w_gB, ↓w_rB, ↓w_cl, ↓w_callA, ↓w_gStar, ↓w_fld, ↓get_d1, ↓w_mth, ↓w_mthS, ↓w_prp, ↓w_lenO, ↓w_own2, ↓w_ownB, ↓w_augO, ↓w_setF, ↓w_fn, ↓w_mk, ↓w_arg, ↓w_any, ↓w_kw, ↓selR, ↓selA, ↓sQ_0, ↓sQ_s, ↓st_nx, ↓st_ct, ↓st_bk, ↓st_rt, ↓w_lc, ↓g_ixt, ↓g_ixl, ↓g_ixs, ↓at_0, ↓at_1, ↓at_2, ↓at_3, ↓ix_0, ↓ix_1, ↓ix_2, ↓g_addi, ↓g_adds, ↓g_addt, ↓g_addl, ↓g_muli, ↓g_mult, ↓g_mull, ↓g_sub, ↓g_div, ↓g_mod, ↓g_pow, ↓g_bD, ↓g_lt, ↓g_le, ↓g_gt, ↓g_ge, ↓g_neg, ↓g_bl, ↓g_int, ↓g_lent, ↓g_lenl, ↓g_lens, ↓g_list, ↓g_lisl, ↓g_tupt, ↓g_tupl, ↓g_max, ↓g_min, ↓g_itt, ↓g_itl, ↓g_its, ↓g_slt, ↓g_sll, ↓g_sls, ↓g_rng1, ↓g_rng2, ↓g_enum, ↓g_nm, ↓g_tp, ↓g_gc, ↓g_gn, ↓g_isIntD_non, ↓g_isIntD_bl, ↓g_isIntD_int, ↓g_isIntD_str, ↓g_isIntD_tup, ↓g_isIntD_lst, ↓g_isBoolD_non, ↓g_isBoolD_bl, ↓g_isBoolD_int, ↓g_isBoolD_str, ↓g_isBoolD_tup, ↓g_isBoolD_lst, ↓g_isTupD_non, ↓g_isTupD_bl, ↓g_isTupD_int, ↓g_isTupD_str, ↓g_isTupD_tup, ↓g_isTupD_lst, ↓g_isStrD_non, ↓g_isStrD_bl, ↓g_isStrD_int, ↓g_isStrD_str, ↓g_isStrD_tup, ↓g_isStrD_lst, ↓g_own_non, ↓g_own_bl, ↓g_own_int, ↓g_own_str, ↓g_own_tup, ↓g_own_lst, ↓g_own_ins, ↓g_eqi, ↓g_eqs, ↓g_nei, ↓g_nes, ↓p_bnd, ↓p_ret, ↓p_none, ↓p_fr, ↓p_and, ↓p_or, ↓p_not, ↓p_ifE, ↓p_bl, ↓p_nil, ↓p_cons, ↓p_tup, ↓p_lst, ↓p_drop, ↓p_rt, ↓p_mif, ↓p_for, ↓p_gNil, ↓p_gV, ↓p_gApp, ↓p_rV, ↓p_if, cs_un, cs_fr, List.length_cons, List.length_nil, List.length_map, Nat.zero_add, insD_i, decide_eq_true_eq, Bool.not_eq_true', Bool.not_true, Bool.not_false, decide_eq_false_iff_not, true_and, and_true, ne_eq, not_false_eq_true, List.lookup_cons, Nat.reduceAdd, isN_non, isN_bl, isN_int, isN_str, isN_tup, isN_lst, ↓reduceIte]
    exact h
  | lift ms hw hl =>
    simp (decide := true) only [↓k_some, ↓k_no, ↓k_ite, ↓getK_0, ↓getK_s, ↓setK_0, ↓setK_s, ↓ff_0, ↓ff_s, ↓ff_o, ↓fo_l, ↓fo_i, ↓fk_fr, ↓fk_ow, ↓vk_fr, ↓vk_ow, ↓vw_fr, ↓vw_l, ↓mv_fr, ↓mv_ow, ↓sq_nx, ↓sq_bk, ↓sq_ct, ↓sq_rt, ↓fi_rt, ↓fi_nx, ↓ou_0, ↓ou_fr, ↓ou_ow, ↓ou_un, ↓ou_of, ↓ou_on, ↓un_00, ↓un_0s, ↓un_s, ↓rk_fr, ↓rk_un, ↓rk_ow, ↓ak_l, ↓lk_l, ↓si_l, ↓ls_0, ↓ls_s, ↓gb_fr, ↓gb_ow, ↓rb_fr, ↓rb_ow, ↓to_0, ↓to_v, ↓to_b, ↓to_map, ↓to_mapn, ↓tb_fr, ↓tb_ow, ↓bk_0, ↓bk_v, ↓bk_bi, ↓ba_0, ↓ba_s, ↓bk_mapf, ↓bk_mapn, ↓bb_fr, ↓bb_ow, ↓ui_un, ↓set_tag, ↓set_tagf, ↓df_0, ↓sp_0, ↓sp_n, ↓sp_s, ↓fs_0, ↓fs_s, ↓fs_map, ↓ct_0, ↓ct_fr, ↓ct_un, ↓ct_ow, ↓ap_00, ↓ap_0s, ↓ap_s, ↓as_0, ↓as_s, ↓in_v, ↓in_b, ↓ib_fr, ↓ib_ow, ↓fl_v, ↓fr_fd, ↓fl_b, ↓fb_fr, ↓fb_ow, ↓get_look, ↓ln_i, ↓sf_fr, ↓sf_ow, ↓mk_r, ↓w_var, ↓w_view, ↓w_lift, ↓w_frz, ↓w_m1, ↓w_m2, ↓w_mV2, ↓w_m2V, ↓w_tst, ↓w_isN, ↓w_notN, ↓bv_bl, ↓w_andV, ↓w_orV, ↓nv_bl, ↓w_notV, ↓w_ch, ↓pt_i, ↓w_part, ↓w_sl, ↓w_slV, ↓w_cal, ↓w_lenV, ↓w_is, ↓w_isO, ↓w_put, ↓w_set, ↓w_move, ↓w_seq, ↓w_asg, ↓w_app, ↓w_setI, ↓w_items, ↓w_gB, ↓w_rB, ↓w_cl, ↓w_callA, ↓w_gStar, ↓w_fld, ↓get_d1, ↓w_mth, ↓w_mthS, ↓w_prp, ↓w_lenO, ↓w_own2, ↓w_ownB, ↓w_augO, ↓w_setF, ↓w_fn, ↓w_mk, ↓w_arg, ↓w_any, ↓w_kw, ↓selR, ↓selA, ↓sQ_0, ↓sQ_s, ↓st_nx, ↓st_ct, ↓st_bk, ↓st_rt, ↓w_lc, ↓g_ixt, ↓g_ixl, ↓g_ixs, ↓at_0, ↓at_1, ↓at_2, ↓at_3, ↓ix_0, ↓ix_1, ↓ix_2, ↓g_addi, ↓g_adds, ↓g_addt, ↓g_addl, ↓g_muli, ↓g_mult, ↓g_mull, ↓g_sub, ↓g_div, ↓g_mod, ↓g_pow, ↓g_bD, ↓g_lt, ↓g_le, ↓g_gt, ↓g_ge, ↓g_neg, ↓g_bl, ↓g_int, ↓g_lent, ↓g_lenl, ↓g_lens, ↓g_list, ↓g_lisl, ↓g_tupt, ↓g_tupl, ↓g_max, ↓g_min, ↓g_itt, ↓g_itl, ↓g_its, ↓g_slt, ↓g_sll, ↓g_sls, ↓g_rng1, ↓g_rng2, ↓g_enum, ↓g_nm, ↓g_tp, ↓g_gc, ↓g_gn, ↓g_isIntD_non, ↓g_isIntD_bl, ↓g_isIntD_int, ↓g_isIntD_str, ↓g_isIntD_tup, ↓g_isIntD_lst, ↓g_isBoolD_non, ↓g_isBoolD_bl, ↓g_isBoolD_int, ↓g_isBoolD_str, ↓g_isBoolD_tup, ↓g_isBoolD_lst, ↓g_isTupD_non, ↓g_isTupD_bl, ↓g_isTupD_int, ↓g_isTupD_str, ↓g_isTupD_tup, ↓g_isTupD_lst, ↓g_isStrD_non, ↓g_isStrD_bl, ↓g_isStrD_int, ↓g_isStrD_str, ↓g_isStrD_tup, ↓g_isStrD_lst, ↓g_own_non, ↓g_own_bl, ↓g_own_int, ↓g_own_str, ↓g_own_tup, ↓g_own_lst, ↓g_own_ins, ↓g_eqi, ↓g_eqs, ↓g_nei, ↓g_nes, ↓p_bnd, ↓p_ret, ↓p_none, ↓p_fr, ↓p_and, ↓p_or, ↓p_not, ↓p_ifE, ↓p_bl, ↓p_nil, ↓p_cons, ↓p_tup, ↓p_lst, ↓p_drop, ↓p_rt, ↓p_mif, ↓p_for, ↓p_gNil, ↓p_gV, ↓p_gApp, ↓p_rV, ↓p_if, cs_un, cs_fr, List.length_cons, List.length_nil, List.length_map, Nat.zero_add, insD_i, decide_eq_true_eq, Bool.not_eq_true', Bool.not_true, Bool.not_false, decide_eq_false_iff_not, true_and, and_true, ne_eq, not_false_eq_true, List.lookup_cons, Nat.reduceAdd, isN_non, isN_bl, isN_int, isN_str, isN_tup, isN_lst, ↓reduceIte]
    refine ⟨⟨by decide +kernel, by decide +kernel⟩, ⟨by decide +kernel, by decide +kernel⟩, spots_spec hw ?_⟩
    simp (decide := true) only [↓k_some, ↓k_no, ↓k_ite, ↓getK_0, ↓getK_s, ↓setK_0, ↓setK_s, ↓ff_0, ↓ff_s, ↓ff_o, ↓fo_l, ↓fo_i, ↓fk_fr, ↓fk_ow, ↓vk_fr, ↓vk_ow, ↓vw_fr, ↓vw_l, ↓mv_fr, ↓mv_ow, ↓sq_nx, ↓sq_bk, ↓sq_ct, ↓sq_rt, ↓fi_rt, ↓fi_nx, ↓ou_0, ↓ou_fr, ↓ou_ow, ↓ou_un, ↓ou_of, ↓ou_on, ↓un_00, ↓un_0s, ↓un_s, ↓rk_fr, ↓rk_un, ↓rk_ow, ↓ak_l, ↓lk_l, ↓si_l, ↓ls_0, ↓ls_s, ↓gb_fr, ↓gb_ow, ↓rb_fr, ↓rb_ow, ↓to_0, ↓to_v, ↓to_b, ↓to_map, ↓to_mapn, ↓tb_fr, ↓tb_ow, ↓bk_0, ↓bk_v, ↓bk_bi, ↓ba_0, ↓ba_s, ↓bk_mapf, ↓bk_mapn, ↓bb_fr, ↓bb_ow, ↓ui_un, ↓set_tag, ↓set_tagf, ↓df_0, ↓sp_0, ↓sp_n, ↓sp_s, ↓fs_0, ↓fs_s, ↓fs_map, ↓ct_0, ↓ct_fr, ↓ct_un, ↓ct_ow, ↓ap_00, ↓ap_0s, ↓ap_s, ↓as_0, ↓as_s, ↓in_v, ↓in_b, ↓ib_fr, ↓ib_ow, ↓fl_v, ↓fr_fd, ↓fl_b, ↓fb_fr, ↓fb_ow, ↓get_look, ↓ln_i, ↓sf_fr, ↓sf_ow, ↓mk_r, ↓w_var, ↓w_view, ↓w_lift, ↓w_frz, ↓w_m1, ↓w_m2, ↓w_mV2, ↓w_m2V, ↓w_tst, ↓w_isN, ↓w_notN, ↓bv_bl, ↓w_andV, ↓w_orV, ↓nv_bl, ↓w_notV, ↓w_ch, ↓pt_i, ↓w_part, ↓w_sl, ↓w_slV, ↓w_cal, ↓w_lenV, ↓w_is, ↓w_isO, ↓w_put, ↓w_set, ↓w_move, ↓w_seq, ↓w_asg, ↓w_app, ↓w_setI, ↓w_items, ↓w_gB, ↓w_rB, ↓w_cl, ↓w_callA, ↓w_gStar, ↓w_fld, ↓get_d1, ↓w_mth, ↓w_mthS, ↓w_prp, ↓w_lenO, ↓w_own2, ↓w_ownB, ↓w_augO, ↓w_setF, ↓w_fn, ↓w_mk, ↓w_arg, ↓w_any, ↓w_kw, ↓selR, ↓selA, ↓sQ_0, ↓sQ_s, ↓st_nx, ↓st_ct, ↓st_bk, ↓st_rt, ↓w_lc, ↓g_ixt, ↓g_ixl, ↓g_ixs, ↓at_0, ↓at_1, ↓at_2, ↓at_3, ↓ix_0, ↓ix_1, ↓ix_2, ↓g_addi, ↓g_adds, ↓g_addt, ↓g_addl, ↓g_muli, ↓g_mult, ↓g_mull, ↓g_sub, ↓g_div, ↓g_mod, ↓g_pow, ↓g_bD, ↓g_lt, ↓g_le, ↓g_gt, ↓g_ge, ↓g_neg, ↓g_bl, ↓g_int, ↓g_lent, ↓g_lenl, ↓g_lens, ↓g_list, ↓g_lisl, ↓g_tupt, ↓g_tupl, ↓g_max, ↓g_min, ↓g_itt, ↓g_itl, ↓g_its, ↓g_slt, ↓g_sll, ↓g_sls, ↓g_rng1, ↓g_rng2, ↓g_enum, ↓g_nm, ↓g_tp, ↓g_gc, ↓g_gn, ↓g_isIntD_non, ↓g_isIntD_bl, ↓g_isIntD_int, ↓g_isIntD_str, ↓g_isIntD_tup, ↓g_isIntD_lst, ↓g_isBoolD_non, ↓g_isBoolD_bl, ↓g_isBoolD_int, ↓g_isBoolD_str, ↓g_isBoolD_tup, ↓g_isBoolD_lst, ↓g_isTupD_non, ↓g_isTupD_bl, ↓g_isTupD_int, ↓g_isTupD_str, ↓g_isTupD_tup, ↓g_isTupD_lst, ↓g_isStrD_non, ↓g_isStrD_bl, ↓g_isStrD_int, ↓g_isStrD_str, ↓g_isStrD_tup, ↓g_isStrD_lst, ↓g_own_non, ↓g_own_bl, ↓g_own_int, ↓g_own_str, ↓g_own_tup, ↓g_own_lst, ↓g_own_ins, ↓g_eqi, ↓g_eqs, ↓g_nei, ↓g_nes, ↓p_bnd, ↓p_ret, ↓p_none, ↓p_fr, ↓p_and, ↓p_or, ↓p_not, ↓p_ifE, ↓p_bl, ↓p_nil, ↓p_cons, ↓p_tup, ↓p_lst, ↓p_drop, ↓p_rt, ↓p_mif, ↓p_for, ↓p_gNil, ↓p_gV, ↓p_gApp, ↓p_rV, ↓p_if, cs_un, cs_fr, List.length_cons, List.length_nil, List.length_map, Nat.zero_add, insD_i, decide_eq_true_eq, Bool.not_eq_true', Bool.not_true, Bool.not_false, decide_eq_false_iff_not, true_and, and_true, ne_eq, not_false_eq_true, List.lookup_cons, Nat.reduceAdd, isN_non, isN_bl, isN_int, isN_str, isN_tup, isN_lst, ↓reduceIte]
    exact h
  | swap ps hw hl =>
    simp (decide := true) only [↓k_some, ↓k_no, ↓k_ite, ↓getK_0, ↓getK_s, ↓setK_0, ↓setK_s, ↓ff_0, ↓ff_s, ↓ff_o, ↓fo_l, ↓fo_i, ↓fk_fr, ↓fk_ow, ↓vk_fr, ↓vk_ow, ↓vw_fr, ↓vw_l, ↓mv_fr, ↓mv_ow, ↓sq_nx, ↓sq_bk, ↓sq_ct, ↓sq_rt, ↓fi_rt, ↓fi_nx, ↓ou_0, ↓ou_fr, ↓ou_ow, ↓ou_un, ↓ou_of, ↓ou_on, ↓un_00, ↓un_0s, ↓un_s, ↓rk_fr, ↓rk_un, ↓rk_ow, ↓ak_l, ↓lk_l, ↓si_l, ↓ls_0, ↓ls_s, ↓gb_fr, ↓gb_ow, ↓rb_fr, ↓rb_ow, ↓to_0, ↓to_v, ↓to_b, ↓to_map, ↓to_mapn, ↓tb_fr, ↓tb_ow, ↓bk_0, ↓bk_v, ↓bk_bi, ↓ba_0, ↓ba_s, ↓bk_mapf, ↓bk_mapn, ↓bb_fr, ↓bb_ow, ↓ui_un, ↓set_tag, ↓set_tagf, ↓df_0, ↓sp_0, ↓sp_n, ↓sp_s, ↓fs_0, ↓fs_s, ↓fs_map, ↓ct_0, ↓ct_fr, ↓ct_un, ↓ct_ow, ↓ap_00, ↓ap_0s, ↓ap_s, ↓as_0, ↓as_s, ↓in_v, ↓in_b, ↓ib_fr, ↓ib_ow, ↓fl_v, ↓fr_fd, ↓fl_b, ↓fb_fr, ↓fb_ow, ↓get_look, ↓ln_i, ↓sf_fr, ↓sf_ow, ↓mk_r, ↓w_var, ↓w_view, ↓w_lift, ↓w_frz, ↓w_m1, ↓w_m2, ↓w_mV2, ↓w_m2V, ↓w_tst, ↓w_isN, ↓w_notN, ↓bv_bl, ↓w_andV, ↓w_orV, ↓nv_bl, ↓w_notV, ↓w_ch, ↓pt_i, ↓w_part, ↓w_sl, ↓w_slV, ↓w_cal, ↓w_lenV, ↓w_is, ↓w_isO, ↓w_put, ↓w_set, ↓w_move, ↓w_seq, ↓w_asg, ↓w_app, ↓w_setI, ↓w_items, ↓w_gB, ↓w_rB, ↓w_cl, ↓w_callA, ↓w_gStar, ↓w_fld, ↓get_d1, ↓w_mth, ↓w_mthS, ↓w_prp, ↓w_lenO, ↓w_own2, ↓w_ownB, ↓w_augO, ↓w_setF, ↓w_fn, ↓w_mk, ↓w_arg, ↓w_any, ↓w_kw, ↓selR, ↓selA, ↓sQ_0, ↓sQ_s, ↓st_nx, ↓st_ct, ↓st_bk, ↓st_rt, ↓w_lc, ↓g_ixt, ↓g_ixl, ↓g_ixs, ↓at_0, ↓at_1, ↓at_2, ↓at_3, ↓ix_0, ↓ix_1, ↓ix_2, ↓g_addi, ↓g_adds, ↓g_addt, ↓g_addl, ↓g_muli, ↓g_mult, ↓g_mull, ↓g_sub, ↓g_div, ↓g_mod, ↓g_pow, ↓g_bD, ↓g_lt, ↓g_le, ↓g_gt, ↓g_ge, ↓g_neg, ↓g_bl, ↓g_int, ↓g_lent, ↓g_lenl, ↓g_lens, ↓g_list, ↓g_lisl, ↓g_tupt, ↓g_tupl, ↓g_max, ↓g_min, ↓g_itt, ↓g_itl, ↓g_its, ↓g_slt, ↓g_sll, ↓g_sls, ↓g_rng1, ↓g_rng2, ↓g_enum, ↓g_nm, ↓g_tp, ↓g_gc, ↓g_gn, ↓g_isIntD_non, ↓g_isIntD_bl, ↓g_isIntD_int, ↓g_isIntD_str, ↓g_isIntD_tup, ↓g_isIntD_lst, ↓g_isBoolD_non, ↓g_isBoolD_bl, ↓g_isBoolD_int, ↓g_isBoolD_str, ↓g_isBoolD_tup, ↓g_isBoolD_lst, ↓g_isTupD_non, ↓g_isTupD_bl, ↓g_isTupD_int, ↓g_isTupD_str, ↓g_isTupD_tup, ↓g_isTupD_lst, ↓g_isStrD_non, ↓g_isStrD_bl, ↓g_isStrD_int, ↓g_isStrD_str, ↓g_isStrD_tup, ↓g_isStrD_lst, ↓g_own_non, ↓g_own_bl, ↓g_own_int, ↓g_own_str, ↓g_own_tup, ↓g_own_lst, ↓g_own_ins, ↓g_eqi, ↓g_eqs, ↓g_nei, ↓g_nes, ↓p_bnd, ↓p_ret, ↓p_none, ↓p_fr, ↓p_and, ↓p_or, ↓p_not, ↓p_ifE, ↓p_bl, ↓p_nil, ↓p_cons, ↓p_tup, ↓p_lst, ↓p_drop, ↓p_rt, ↓p_mif, ↓p_for, ↓p_gNil, ↓p_gV, ↓p_gApp, ↓p_rV, ↓p_if, cs_un, cs_fr, List.length_cons, List.length_nil, List.length_map, Nat.zero_add, insD_i, decide_eq_true_eq, Bool.not_eq_true', Bool.not_true, Bool.not_false, decide_eq_false_iff_not, true_and, and_true, ne_eq, not_false_eq_true, List.lookup_cons, Nat.reduceAdd, isN_non, isN_bl, isN_int, isN_str, isN_tup, isN_lst, ↓reduceIte]
    refine ⟨⟨by decide +kernel, by decide +kernel⟩, ⟨by decide +kernel, by decide +kernel⟩, ⟨by decide +kernel, by decide +kernel⟩, swaps_spec hl hw ?_⟩
    simp (decide := true) only [↓k_some, ↓k_no, ↓k_ite, ↓getK_0, ↓getK_s, ↓setK_0, ↓setK_s, ↓ff_0, ↓ff_s, ↓ff_o, ↓fo_l, ↓fo_i, ↓fk_fr, ↓fk_ow, ↓vk_fr, ↓vk_ow, ↓vw_fr, ↓vw_l, ↓mv_fr, ↓mv_ow, ↓sq_nx, ↓sq_bk, ↓sq_ct, ↓sq_rt, ↓fi_rt, ↓fi_nx, ↓ou_0, ↓ou_fr, ↓ou_ow, ↓ou_un, ↓ou_of, ↓ou_on, ↓un_00, ↓un_0s, ↓un_s, ↓rk_fr, ↓rk_un, ↓rk_ow, ↓ak_l, ↓lk_l, ↓si_l, ↓ls_0, ↓ls_s, ↓gb_fr, ↓gb_ow, ↓rb_fr, ↓rb_ow, ↓to_0, ↓to_v, ↓to_b, ↓to_map, ↓to_mapn, ↓tb_fr, ↓tb_ow, ↓bk_0, ↓bk_v, ↓bk_bi, ↓ba_0, ↓ba_s, ↓bk_mapf, ↓bk_mapn, ↓bb_fr, ↓bb_ow, ↓ui_un, ↓set_tag, ↓set_tagf, ↓df_0, ↓sp_0, ↓sp_n, ↓sp_s, ↓fs_0, ↓fs_s, ↓fs_map, ↓ct_0, ↓ct_fr, ↓ct_un, ↓ct_ow, ↓ap_00, ↓ap_0s, ↓ap_s, ↓as_0, ↓as_s, ↓in_v, ↓in_b, ↓ib_fr, ↓ib_ow, ↓fl_v, ↓fr_fd, ↓fl_b, ↓fb_fr, ↓fb_ow, ↓get_look, ↓ln_i, ↓sf_fr, ↓sf_ow, ↓mk_r, ↓w_var, ↓w_view, ↓w_lift, ↓w_frz, ↓w_m1, ↓w_m2, ↓w_mV2, ↓w_m2V, ↓w_tst, ↓w_isN, ↓w_notN, ↓bv_bl, ↓w_andV, ↓w_orV, ↓nv_bl, ↓w_notV, ↓w_ch, ↓pt_i, ↓w_part, ↓w_sl, ↓w_slV, ↓w_cal, ↓w_lenV, ↓w_is, ↓w_isO, ↓w_put, ↓w_set, ↓w_move, ↓w_seq, ↓w_asg, ↓w_app, ↓w_setI, ↓w_items, ↓w_gB, ↓w_rB, ↓w_cl, ↓w_callA, ↓w_gStar, ↓w_fld, ↓get_d1, ↓w_mth, ↓w_mthS, ↓w_prp, ↓w_lenO, ↓w_own2, ↓w_ownB, ↓w_augO, ↓w_setF, ↓w_fn, ↓w_mk, ↓w_arg, ↓w_any, ↓w_kw, ↓selR, ↓selA, ↓sQ_0, ↓sQ_s, ↓st_nx, ↓st_ct, ↓st_bk, ↓st_rt, ↓w_lc, ↓g_ixt, ↓g_ixl, ↓g_ixs, ↓at_0, ↓at_1, ↓at_2, ↓at_3, ↓ix_0, ↓ix_1, ↓ix_2, ↓g_addi, ↓g_adds, ↓g_addt, ↓g_addl, ↓g_muli, ↓g_mult, ↓g_mull, ↓g_sub, ↓g_div, ↓g_mod, ↓g_pow, ↓g_bD, ↓g_lt, ↓g_le, ↓g_gt, ↓g_ge, ↓g_neg, ↓g_bl, ↓g_int, ↓g_lent, ↓g_lenl, ↓g_lens, ↓g_list, ↓g_lisl, ↓g_tupt, ↓g_tupl, ↓g_max, ↓g_min, ↓g_itt, ↓g_itl, ↓g_its, ↓g_slt, ↓g_sll, ↓g_sls, ↓g_rng1, ↓g_rng2, ↓g_enum, ↓g_nm, ↓g_tp, ↓g_gc, ↓g_gn, ↓g_isIntD_non, ↓g_isIntD_bl, ↓g_isIntD_int, ↓g_isIntD_str, ↓g_isIntD_tup, ↓g_isIntD_lst, ↓g_isBoolD_non, ↓g_isBoolD_bl, ↓g_isBoolD_int, ↓g_isBoolD_str, ↓g_isBoolD_tup, ↓g_isBoolD_lst, ↓g_isTupD_non, ↓g_isTupD_bl, ↓g_isTupD_int, ↓g_isTupD_str, ↓g_isTupD_tup, ↓g_isTupD_lst, ↓g_isStrD_non, ↓g_isStrD_bl, ↓g_isStrD_int, ↓g_isStrD_str, ↓g_isStrD_tup, ↓g_isStrD_lst, ↓g_own_non, ↓g_own_bl, ↓g_own_int, ↓g_own_str, ↓g_own_tup, ↓g_own_lst, ↓g_own_ins, ↓g_eqi, ↓g_eqs, ↓g_nei, ↓g_nes, ↓p_bnd, ↓p_ret, ↓p_none, ↓p_fr, ↓p_and, ↓p_or, ↓p_not, ↓p_ifE, ↓p_bl, ↓p_nil, ↓p_cons, ↓p_tup, ↓p_lst, ↓p_drop, ↓p_rt, ↓p_mif, ↓p_for, ↓p_gNil, ↓p_gV, ↓p_gApp, ↓p_rV, ↓p_if, cs_un, cs_fr, List.length_cons, List.length_nil, List.length_map, Nat.zero_add, insD_i, decide_eq_true_eq, Bool.not_eq_true', Bool.not_true, Bool.not_false, decide_eq_false_iff_not, true_and, and_true, ne_eq, not_false_eq_true, List.lookup_cons, Nat.reduceAdd, isN_non, isN_bl, isN_int, isN_str, isN_tup, isN_lst, ↓reduceIte]
    exact h

end Law
end
section
set_option exponentiation.threshold 2000
namespace Law
open PySem PySem.Spec PyProof.Rows L2 L3
variable {Z : Cs}
/-! ### rows -/
def rowD (Z : Cs) (t ds : List D) : D := .ins Z.Doors [("ground", .tup t), ("gates", .tup ds)]
def rowO (Z : Cs) (t ds : List D) : Ob := .ins Z.Doors [("ground", .fr (.tup t)), ("gates", .fr (.tup ds))]
def Gates (s : Int) (ds : List D) : Prop := (∀ d ∈ ds, Gate s d)
theorem init_spec {t ds : List D} {Q : Sl → List Sl → Prop} (ht : IsTree t) (hg : Gates t.length ds) (h : Q (.fr .non) [.ow (some 0) (rowO Z t ds), .fr (.tup t), .fr (.tup ds)]) :
    PostF (f_Doors_init Z) [.ow (some 0) (.ins Z.Doors []), .fr (.tup t), .fr (.tup ds)] Q := by
  unfold f_Doors_init b_Doors_init
  simp (decide := true) only [↓k_some, ↓k_no, ↓k_ite, ↓getK_0, ↓getK_s, ↓setK_0, ↓setK_s, ↓ff_0, ↓ff_s, ↓ff_o, ↓fo_l, ↓fo_i, ↓fk_fr, ↓fk_ow, ↓vk_fr, ↓vk_ow, ↓vw_fr, ↓vw_l, ↓mv_fr, ↓mv_ow, ↓sq_nx, ↓sq_bk, ↓sq_ct, ↓sq_rt, ↓fi_rt, ↓fi_nx, ↓ou_0, ↓ou_fr, ↓ou_ow, ↓ou_un, ↓ou_of, ↓ou_on, ↓un_00, ↓un_0s, ↓un_s, ↓rk_fr, ↓rk_un, ↓rk_ow, ↓ak_l, ↓lk_l, ↓si_l, ↓ls_0, ↓ls_s, ↓gb_fr, ↓gb_ow, ↓rb_fr, ↓rb_ow, ↓to_0, ↓to_v, ↓to_b, ↓to_map, ↓to_mapn, ↓tb_fr, ↓tb_ow, ↓bk_0, ↓bk_v, ↓bk_bi, ↓ba_0, ↓ba_s, ↓bk_mapf, ↓bk_mapn, ↓bb_fr, ↓bb_ow, ↓ui_un, ↓set_tag, ↓set_tagf, ↓df_0, ↓sp_0, ↓sp_n, ↓sp_s, ↓fs_0, ↓fs_s, ↓fs_map, ↓ct_0, ↓ct_fr, ↓ct_un, ↓ct_ow, ↓ap_00, ↓ap_0s, ↓ap_s, ↓as_0, ↓as_s, ↓in_v, ↓in_b, ↓ib_fr, ↓ib_ow, ↓fl_v, ↓fr_fd, ↓fl_b, ↓fb_fr, ↓fb_ow, ↓get_look, ↓ln_i, ↓sf_fr, ↓sf_ow, ↓mk_r, ↓w_var, ↓w_view, ↓w_lift, ↓w_frz, ↓w_m1, ↓w_m2, ↓w_mV2, ↓w_m2V, ↓w_tst, ↓w_isN, ↓w_notN, ↓bv_bl, ↓w_andV, ↓w_orV, ↓nv_bl, ↓w_notV, ↓w_ch, ↓pt_i, ↓w_part, ↓w_sl, ↓w_slV, ↓w_cal, ↓w_lenV, ↓w_is, ↓w_isO, ↓w_put, ↓w_set, ↓w_move, ↓w_seq, ↓w_asg, ↓w_app, ↓w_setI, ↓w_items, ↓w_gB, ↓w_rB, ↓w_cl, ↓w_callA, ↓w_gStar, ↓w_fld, ↓get_d1, ↓w_mth, ↓w_mthS, ↓w_prp, ↓w_lenO, ↓w_own2, ↓w_ownB, ↓w_augO, ↓w_setF, ↓w_fn, ↓w_mk, ↓w_arg, ↓w_any, ↓w_kw, ↓selR, ↓selA, ↓sQ_0, ↓sQ_s, ↓st_nx, ↓st_ct, ↓st_bk, ↓st_rt, ↓w_lc, ↓g_ixt, ↓g_ixl, ↓g_ixs, ↓at_0, ↓at_1, ↓at_2, ↓at_3, ↓ix_0, ↓ix_1, ↓ix_2, ↓g_addi, ↓g_adds, ↓g_addt, ↓g_addl, ↓g_muli, ↓g_mult, ↓g_mull, ↓g_sub, ↓g_div, ↓g_mod, ↓g_pow, ↓g_bD, ↓g_lt, ↓g_le, ↓g_gt, ↓g_ge, ↓g_neg, ↓g_bl, ↓g_int, ↓g_lent, ↓g_lenl, ↓g_lens, ↓g_list, ↓g_lisl, ↓g_tupt, ↓g_tupl, ↓g_max, ↓g_min, ↓g_itt, ↓g_itl, ↓g_its, ↓g_slt, ↓g_sll, ↓g_sls, ↓g_rng1, ↓g_rng2, ↓g_enum, ↓g_nm, ↓g_tp, ↓g_gc, ↓g_gn, ↓g_isIntD_non, ↓g_isIntD_bl, ↓g_isIntD_int, ↓g_isIntD_str, ↓g_isIntD_tup, ↓g_isIntD_lst, ↓g_isBoolD_non, ↓g_isBoolD_bl, ↓g_isBoolD_int, ↓g_isBoolD_str, ↓g_isBoolD_tup, ↓g_isBoolD_lst, ↓g_isTupD_non, ↓g_isTupD_bl, ↓g_isTupD_int, ↓g_isTupD_str, ↓g_isTupD_tup, ↓g_isTupD_lst, ↓g_isStrD_non, ↓g_isStrD_bl, ↓g_isStrD_int, ↓g_isStrD_str, ↓g_isStrD_tup, ↓g_isStrD_lst, ↓g_own_non, ↓g_own_bl, ↓g_own_int, ↓g_own_str, ↓g_own_tup, ↓g_own_lst, ↓g_own_ins, ↓g_eqi, ↓g_eqs, ↓g_nei, ↓g_nes, ↓p_bnd, ↓p_ret, ↓p_none, ↓p_fr, ↓p_and, ↓p_or, ↓p_not, ↓p_ifE, ↓p_bl, ↓p_nil, ↓p_cons, ↓p_tup, ↓p_lst, ↓p_drop, ↓p_rt, ↓p_mif, ↓p_for, ↓p_gNil, ↓p_gV, ↓p_gApp, ↓p_rV, ↓p_if, cs_un, cs_fr, List.length_cons, List.length_nil, List.length_map, Nat.zero_add, insD_i, decide_eq_true_eq, Bool.not_eq_true', Bool.not_true, Bool.not_false, decide_eq_false_iff_not, true_and, and_true, ne_eq, not_false_eq_true, List.lookup_cons, Nat.reduceAdd, isN_non, isN_bl, isN_int, isN_str, isN_tup, isN_lst, ↓reduceIte]
  refine need_tree_spec ht ?_
  simp (decide := true) only [↓k_some, ↓k_no, ↓k_ite, ↓getK_0, ↓getK_s, ↓setK_0, ↓setK_s, ↓ff_0, ↓ff_s, ↓ff_o, ↓fo_l, ↓fo_i, ↓fk_fr, ↓fk_ow, ↓vk_fr, ↓vk_ow, ↓vw_fr, ↓vw_l, ↓mv_fr, ↓mv_ow, ↓sq_nx, ↓sq_bk, ↓sq_ct, ↓sq_rt, ↓fi_rt, ↓fi_nx, ↓ou_0, ↓ou_fr, ↓ou_ow, ↓ou_un, ↓ou_of, ↓ou_on, ↓un_00, ↓un_0s, ↓un_s, ↓rk_fr, ↓rk_un, ↓rk_ow, ↓ak_l, ↓lk_l, ↓si_l, ↓ls_0, ↓ls_s, ↓gb_fr, ↓gb_ow, ↓rb_fr, ↓rb_ow, ↓to_0, ↓to_v, ↓to_b, ↓to_map, ↓to_mapn, ↓tb_fr, ↓tb_ow, ↓bk_0, ↓bk_v, ↓bk_bi, ↓ba_0, ↓ba_s, ↓bk_mapf, ↓bk_mapn, ↓bb_fr, ↓bb_ow, ↓ui_un, ↓set_tag, ↓set_tagf, ↓df_0, ↓sp_0, ↓sp_n, ↓sp_s, ↓fs_0, ↓fs_s, ↓fs_map, ↓ct_0, ↓ct_fr, ↓ct_un, ↓ct_ow, ↓ap_00, ↓ap_0s, ↓ap_s, ↓as_0, ↓as_s, ↓in_v, ↓in_b, ↓ib_fr, ↓ib_ow, ↓fl_v, ↓fr_fd, ↓fl_b, ↓fb_fr, ↓fb_ow, ↓get_look, ↓ln_i, ↓sf_fr, ↓sf_ow, ↓mk_r, ↓w_var, ↓w_view, ↓w_lift, ↓w_frz, ↓w_m1, ↓w_m2, ↓w_mV2, ↓w_m2V, ↓w_tst, ↓w_isN, ↓w_notN, ↓bv_bl, ↓w_andV, ↓w_orV, ↓nv_bl, ↓w_notV, ↓w_ch, ↓pt_i, ↓w_part, ↓w_sl, ↓w_slV, ↓w_cal, ↓w_lenV, ↓w_is, ↓w_isO, ↓w_put, ↓w_set, ↓w_move, ↓w_seq, ↓w_asg, ↓w_app, ↓w_setI, ↓w_items, ↓w_gB, ↓w_rB, ↓w_cl, ↓w_callA, ↓w_gStar, ↓w_fld, ↓get_d1, ↓w_mth, ↓w_mthS, ↓w_prp, ↓w_lenO, ↓w_own2, ↓w_ownB, ↓w_augO, ↓w_setF, ↓w_fn, ↓w_mk, ↓w_arg, ↓w_any, ↓w_kw, ↓selR, ↓selA, ↓sQ_0, ↓sQ_s, ↓st_nx, ↓st_ct, ↓st_bk, ↓st_rt, ↓w_lc, ↓g_ixt, ↓g_ixl, ↓g_ixs, ↓at_0, ↓at_1, ↓at_2, ↓at_3, ↓ix_0, ↓ix_1, ↓ix_2, ↓g_addi, ↓g_adds, ↓g_addt, ↓g_addl, ↓g_muli, ↓g_mult, ↓g_mull, ↓g_sub, ↓g_div, ↓g_mod, ↓g_pow, ↓g_bD, ↓g_lt, ↓g_le, ↓g_gt, ↓g_ge, ↓g_neg, ↓g_bl, ↓g_int, ↓g_lent, ↓g_lenl, ↓g_lens, ↓g_list, ↓g_lisl, ↓g_tupt, ↓g_tupl, ↓g_max, ↓g_min, ↓g_itt, ↓g_itl, ↓g_its, ↓g_slt, ↓g_sll, ↓g_sls, ↓g_rng1, ↓g_rng2, ↓g_enum, ↓g_nm, ↓g_tp, ↓g_gc, ↓g_gn, ↓g_isIntD_non, ↓g_isIntD_bl, ↓g_isIntD_int, ↓g_isIntD_str, ↓g_isIntD_tup, ↓g_isIntD_lst, ↓g_isBoolD_non, ↓g_isBoolD_bl, ↓g_isBoolD_int, ↓g_isBoolD_str, ↓g_isBoolD_tup, ↓g_isBoolD_lst, ↓g_isTupD_non, ↓g_isTupD_bl, ↓g_isTupD_int, ↓g_isTupD_str, ↓g_isTupD_tup, ↓g_isTupD_lst, ↓g_isStrD_non, ↓g_isStrD_bl, ↓g_isStrD_int, ↓g_isStrD_str, ↓g_isStrD_tup, ↓g_isStrD_lst, ↓g_own_non, ↓g_own_bl, ↓g_own_int, ↓g_own_str, ↓g_own_tup, ↓g_own_lst, ↓g_own_ins, ↓g_eqi, ↓g_eqs, ↓g_nei, ↓g_nes, ↓p_bnd, ↓p_ret, ↓p_none, ↓p_fr, ↓p_and, ↓p_or, ↓p_not, ↓p_ifE, ↓p_bl, ↓p_nil, ↓p_cons, ↓p_tup, ↓p_lst, ↓p_drop, ↓p_rt, ↓p_mif, ↓p_for, ↓p_gNil, ↓p_gV, ↓p_gApp, ↓p_rV, ↓p_if, cs_un, cs_fr, List.length_cons, List.length_nil, List.length_map, Nat.zero_add, insD_i, decide_eq_true_eq, Bool.not_eq_true', Bool.not_true, Bool.not_false, decide_eq_false_iff_not, true_and, and_true, ne_eq, not_false_eq_true, List.lookup_cons, Nat.reduceAdd, isN_non, isN_bl, isN_int, isN_str, isN_tup, isN_lst, ↓reduceIte]
  refine for_inv (fun i a => ∃ x : Sl, a = [.ow (some 0) (.ins Z.Doors []), .fr (.tup t), .fr (.tup ds), x]) ⟨.un, rfl⟩ (fun i d a hd hI => ?_) (fun a hI => ?_)
  · obtain ⟨x, rfl⟩ := hI
    simp (decide := true) only [↓k_some, ↓k_no, ↓k_ite, ↓getK_0, ↓getK_s, ↓setK_0, ↓setK_s, ↓ff_0, ↓ff_s, ↓ff_o, ↓fo_l, ↓fo_i, ↓fk_fr, ↓fk_ow, ↓vk_fr, ↓vk_ow, ↓vw_fr, ↓vw_l, ↓mv_fr, ↓mv_ow, ↓sq_nx, ↓sq_bk, ↓sq_ct, ↓sq_rt, ↓fi_rt, ↓fi_nx, ↓ou_0, ↓ou_fr, ↓ou_ow, ↓ou_un, ↓ou_of, ↓ou_on, ↓un_00, ↓un_0s, ↓un_s, ↓rk_fr, ↓rk_un, ↓rk_ow, ↓ak_l, ↓lk_l, ↓si_l, ↓ls_0, ↓ls_s, ↓gb_fr, ↓gb_ow, ↓rb_fr, ↓rb_ow, ↓to_0, ↓to_v, ↓to_b, ↓to_map, ↓to_mapn, ↓tb_fr, ↓tb_ow, ↓bk_0, ↓bk_v, ↓bk_bi, ↓ba_0, ↓ba_s, ↓bk_mapf, ↓bk_mapn, ↓bb_fr, ↓bb_ow, ↓ui_un, ↓set_tag, ↓set_tagf, ↓df_0, ↓sp_0, ↓sp_n, ↓sp_s, ↓fs_0, ↓fs_s, ↓fs_map, ↓ct_0, ↓ct_fr, ↓ct_un, ↓ct_ow, ↓ap_00, ↓ap_0s, ↓ap_s, ↓as_0, ↓as_s, ↓in_v, ↓in_b, ↓ib_fr, ↓ib_ow, ↓fl_v, ↓fr_fd, ↓fl_b, ↓fb_fr, ↓fb_ow, ↓get_look, ↓ln_i, ↓sf_fr, ↓sf_ow, ↓mk_r, ↓w_var, ↓w_view, ↓w_lift, ↓w_frz, ↓w_m1, ↓w_m2, ↓w_mV2, ↓w_m2V, ↓w_tst, ↓w_isN, ↓w_notN, ↓bv_bl, ↓w_andV, ↓w_orV, ↓nv_bl, ↓w_notV, ↓w_ch, ↓pt_i, ↓w_part, ↓w_sl, ↓w_slV, ↓w_cal, ↓w_lenV, ↓w_is, ↓w_isO, ↓w_put, ↓w_set, ↓w_move, ↓w_seq, ↓w_asg, ↓w_app, ↓w_setI, ↓w_items, ↓w_gB, ↓w_rB, ↓w_cl, ↓w_callA, ↓w_gStar, ↓w_fld, ↓get_d1, ↓w_mth, ↓w_mthS, ↓w_prp, ↓w_lenO, ↓w_own2, ↓w_ownB, ↓w_augO, ↓w_setF, ↓w_fn, ↓w_mk, ↓w_arg, ↓w_any, ↓w_kw, ↓selR, ↓selA, ↓sQ_0, ↓sQ_s, ↓st_nx, ↓st_ct, ↓st_bk, ↓st_rt, ↓w_lc, ↓g_ixt, ↓g_ixl, ↓g_ixs, ↓at_0, ↓at_1, ↓at_2, ↓at_3, ↓ix_0, ↓ix_1, ↓ix_2, ↓g_addi, ↓g_adds, ↓g_addt, ↓g_addl, ↓g_muli, ↓g_mult, ↓g_mull, ↓g_sub, ↓g_div, ↓g_mod, ↓g_pow, ↓g_bD, ↓g_lt, ↓g_le, ↓g_gt, ↓g_ge, ↓g_neg, ↓g_bl, ↓g_int, ↓g_lent, ↓g_lenl, ↓g_lens, ↓g_list, ↓g_lisl, ↓g_tupt, ↓g_tupl, ↓g_max, ↓g_min, ↓g_itt, ↓g_itl, ↓g_its, ↓g_slt, ↓g_sll, ↓g_sls, ↓g_rng1, ↓g_rng2, ↓g_enum, ↓g_nm, ↓g_tp, ↓g_gc, ↓g_gn, ↓g_isIntD_non, ↓g_isIntD_bl, ↓g_isIntD_int, ↓g_isIntD_str, ↓g_isIntD_tup, ↓g_isIntD_lst, ↓g_isBoolD_non, ↓g_isBoolD_bl, ↓g_isBoolD_int, ↓g_isBoolD_str, ↓g_isBoolD_tup, ↓g_isBoolD_lst, ↓g_isTupD_non, ↓g_isTupD_bl, ↓g_isTupD_int, ↓g_isTupD_str, ↓g_isTupD_tup, ↓g_isTupD_lst, ↓g_isStrD_non, ↓g_isStrD_bl, ↓g_isStrD_int, ↓g_isStrD_str, ↓g_isStrD_tup, ↓g_isStrD_lst, ↓g_own_non, ↓g_own_bl, ↓g_own_int, ↓g_own_str, ↓g_own_tup, ↓g_own_lst, ↓g_own_ins, ↓g_eqi, ↓g_eqs, ↓g_nei, ↓g_nes, ↓p_bnd, ↓p_ret, ↓p_none, ↓p_fr, ↓p_and, ↓p_or, ↓p_not, ↓p_ifE, ↓p_bl, ↓p_nil, ↓p_cons, ↓p_tup, ↓p_lst, ↓p_drop, ↓p_rt, ↓p_mif, ↓p_for, ↓p_gNil, ↓p_gV, ↓p_gApp, ↓p_rV, ↓p_if, cs_un, cs_fr, List.length_cons, List.length_nil, List.length_map, Nat.zero_add, insD_i, decide_eq_true_eq, Bool.not_eq_true', Bool.not_true, Bool.not_false, decide_eq_false_iff_not, true_and, and_true, ne_eq, not_false_eq_true, List.lookup_cons, Nat.reduceAdd, isN_non, isN_bl, isN_int, isN_str, isN_tup, isN_lst, ↓reduceIte]
    refine fits_spec ht (hg _ (List.mem_of_getElem? hd)) ?_
    simp (decide := true) only [↓k_some, ↓k_no, ↓k_ite, ↓getK_0, ↓getK_s, ↓setK_0, ↓setK_s, ↓ff_0, ↓ff_s, ↓ff_o, ↓fo_l, ↓fo_i, ↓fk_fr, ↓fk_ow, ↓vk_fr, ↓vk_ow, ↓vw_fr, ↓vw_l, ↓mv_fr, ↓mv_ow, ↓sq_nx, ↓sq_bk, ↓sq_ct, ↓sq_rt, ↓fi_rt, ↓fi_nx, ↓ou_0, ↓ou_fr, ↓ou_ow, ↓ou_un, ↓ou_of, ↓ou_on, ↓un_00, ↓un_0s, ↓un_s, ↓rk_fr, ↓rk_un, ↓rk_ow, ↓ak_l, ↓lk_l, ↓si_l, ↓ls_0, ↓ls_s, ↓gb_fr, ↓gb_ow, ↓rb_fr, ↓rb_ow, ↓to_0, ↓to_v, ↓to_b, ↓to_map, ↓to_mapn, ↓tb_fr, ↓tb_ow, ↓bk_0, ↓bk_v, ↓bk_bi, ↓ba_0, ↓ba_s, ↓bk_mapf, ↓bk_mapn, ↓bb_fr, ↓bb_ow, ↓ui_un, ↓set_tag, ↓set_tagf, ↓df_0, ↓sp_0, ↓sp_n, ↓sp_s, ↓fs_0, ↓fs_s, ↓fs_map, ↓ct_0, ↓ct_fr, ↓ct_un, ↓ct_ow, ↓ap_00, ↓ap_0s, ↓ap_s, ↓as_0, ↓as_s, ↓in_v, ↓in_b, ↓ib_fr, ↓ib_ow, ↓fl_v, ↓fr_fd, ↓fl_b, ↓fb_fr, ↓fb_ow, ↓get_look, ↓ln_i, ↓sf_fr, ↓sf_ow, ↓mk_r, ↓w_var, ↓w_view, ↓w_lift, ↓w_frz, ↓w_m1, ↓w_m2, ↓w_mV2, ↓w_m2V, ↓w_tst, ↓w_isN, ↓w_notN, ↓bv_bl, ↓w_andV, ↓w_orV, ↓nv_bl, ↓w_notV, ↓w_ch, ↓pt_i, ↓w_part, ↓w_sl, ↓w_slV, ↓w_cal, ↓w_lenV, ↓w_is, ↓w_isO, ↓w_put, ↓w_set, ↓w_move, ↓w_seq, ↓w_asg, ↓w_app, ↓w_setI, ↓w_items, ↓w_gB, ↓w_rB, ↓w_cl, ↓w_callA, ↓w_gStar, ↓w_fld, ↓get_d1, ↓w_mth, ↓w_mthS, ↓w_prp, ↓w_lenO, ↓w_own2, ↓w_ownB, ↓w_augO, ↓w_setF, ↓w_fn, ↓w_mk, ↓w_arg, ↓w_any, ↓w_kw, ↓selR, ↓selA, ↓sQ_0, ↓sQ_s, ↓st_nx, ↓st_ct, ↓st_bk, ↓st_rt, ↓w_lc, ↓g_ixt, ↓g_ixl, ↓g_ixs, ↓at_0, ↓at_1, ↓at_2, ↓at_3, ↓ix_0, ↓ix_1, ↓ix_2, ↓g_addi, ↓g_adds, ↓g_addt, ↓g_addl, ↓g_muli, ↓g_mult, ↓g_mull, ↓g_sub, ↓g_div, ↓g_mod, ↓g_pow, ↓g_bD, ↓g_lt, ↓g_le, ↓g_gt, ↓g_ge, ↓g_neg, ↓g_bl, ↓g_int, ↓g_lent, ↓g_lenl, ↓g_lens, ↓g_list, ↓g_lisl, ↓g_tupt, ↓g_tupl, ↓g_max, ↓g_min, ↓g_itt, ↓g_itl, ↓g_its, ↓g_slt, ↓g_sll, ↓g_sls, ↓g_rng1, ↓g_rng2, ↓g_enum, ↓g_nm, ↓g_tp, ↓g_gc, ↓g_gn, ↓g_isIntD_non, ↓g_isIntD_bl, ↓g_isIntD_int, ↓g_isIntD_str, ↓g_isIntD_tup, ↓g_isIntD_lst, ↓g_isBoolD_non, ↓g_isBoolD_bl, ↓g_isBoolD_int, ↓g_isBoolD_str, ↓g_isBoolD_tup, ↓g_isBoolD_lst, ↓g_isTupD_non, ↓g_isTupD_bl, ↓g_isTupD_int, ↓g_isTupD_str, ↓g_isTupD_tup, ↓g_isTupD_lst, ↓g_isStrD_non, ↓g_isStrD_bl, ↓g_isStrD_int, ↓g_isStrD_str, ↓g_isStrD_tup, ↓g_isStrD_lst, ↓g_own_non, ↓g_own_bl, ↓g_own_int, ↓g_own_str, ↓g_own_tup, ↓g_own_lst, ↓g_own_ins, ↓g_eqi, ↓g_eqs, ↓g_nei, ↓g_nes, ↓p_bnd, ↓p_ret, ↓p_none, ↓p_fr, ↓p_and, ↓p_or, ↓p_not, ↓p_ifE, ↓p_bl, ↓p_nil, ↓p_cons, ↓p_tup, ↓p_lst, ↓p_drop, ↓p_rt, ↓p_mif, ↓p_for, ↓p_gNil, ↓p_gV, ↓p_gApp, ↓p_rV, ↓p_if, cs_un, cs_fr, List.length_cons, List.length_nil, List.length_map, Nat.zero_add, insD_i, decide_eq_true_eq, Bool.not_eq_true', Bool.not_true, Bool.not_false, decide_eq_false_iff_not, true_and, and_true, ne_eq, not_false_eq_true, List.lookup_cons, Nat.reduceAdd, isN_non, isN_bl, isN_int, isN_str, isN_tup, isN_lst, ↓reduceIte]
    exact ⟨_, rfl⟩
  · obtain ⟨x, rfl⟩ := hI
    simp (decide := true) only [↓k_some, ↓k_no, ↓k_ite, ↓getK_0, ↓getK_s, ↓setK_0, ↓setK_s, ↓ff_0, ↓ff_s, ↓ff_o, ↓fo_l, ↓fo_i, ↓fk_fr, ↓fk_ow, ↓vk_fr, ↓vk_ow, ↓vw_fr, ↓vw_l, ↓mv_fr, ↓mv_ow, ↓sq_nx, ↓sq_bk, ↓sq_ct, ↓sq_rt, ↓fi_rt, ↓fi_nx, ↓ou_0, ↓ou_fr, ↓ou_ow, ↓ou_un, ↓ou_of, ↓ou_on, ↓un_00, ↓un_0s, ↓un_s, ↓rk_fr, ↓rk_un, ↓rk_ow, ↓ak_l, ↓lk_l, ↓si_l, ↓ls_0, ↓ls_s, ↓gb_fr, ↓gb_ow, ↓rb_fr, ↓rb_ow, ↓to_0, ↓to_v, ↓to_b, ↓to_map, ↓to_mapn, ↓tb_fr, ↓tb_ow, ↓bk_0, ↓bk_v, ↓bk_bi, ↓ba_0, ↓ba_s, ↓bk_mapf, ↓bk_mapn, ↓bb_fr, ↓bb_ow, ↓ui_un, ↓set_tag, ↓set_tagf, ↓df_0, ↓sp_0, ↓sp_n, ↓sp_s, ↓fs_0, ↓fs_s, ↓fs_map, ↓ct_0, ↓ct_fr, ↓ct_un, ↓ct_ow, ↓ap_00, ↓ap_0s, ↓ap_s, ↓as_0, ↓as_s, ↓in_v, ↓in_b, ↓ib_fr, ↓ib_ow, ↓fl_v, ↓fr_fd, ↓fl_b, ↓fb_fr, ↓fb_ow, ↓get_look, ↓ln_i, ↓sf_fr, ↓sf_ow, ↓mk_r, ↓w_var, ↓w_view, ↓w_lift, ↓w_frz, ↓w_m1, ↓w_m2, ↓w_mV2, ↓w_m2V, ↓w_tst, ↓w_isN, ↓w_notN, ↓bv_bl, ↓w_andV, ↓w_orV, ↓nv_bl, ↓w_notV, ↓w_ch, ↓pt_i, ↓w_part, ↓w_sl, ↓w_slV, ↓w_cal, ↓w_lenV, ↓w_is, ↓w_isO, ↓w_put, ↓w_set, ↓w_move, ↓w_seq, ↓w_asg, ↓w_app, ↓w_setI, ↓w_items, ↓w_gB, ↓w_rB, ↓w_cl, ↓w_callA, ↓w_gStar, ↓w_fld, ↓get_d1, ↓w_mth, ↓w_mthS, ↓w_prp, ↓w_lenO, ↓w_own2, ↓w_ownB, ↓w_augO, ↓w_setF, ↓w_fn, ↓w_mk, ↓w_arg, ↓w_any, ↓w_kw, ↓selR, ↓selA, ↓sQ_0, ↓sQ_s, ↓st_nx, ↓st_ct, ↓st_bk, ↓st_rt, ↓w_lc, ↓g_ixt, ↓g_ixl, ↓g_ixs, ↓at_0, ↓at_1, ↓at_2, ↓at_3, ↓ix_0, ↓ix_1, ↓ix_2, ↓g_addi, ↓g_adds, ↓g_addt, ↓g_addl, ↓g_muli, ↓g_mult, ↓g_mull, ↓g_sub, ↓g_div, ↓g_mod, ↓g_pow, ↓g_bD, ↓g_lt, ↓g_le, ↓g_gt, ↓g_ge, ↓g_neg, ↓g_bl, ↓g_int, ↓g_lent, ↓g_lenl, ↓g_lens, ↓g_list, ↓g_lisl, ↓g_tupt, ↓g_tupl, ↓g_max, ↓g_min, ↓g_itt, ↓g_itl, ↓g_its, ↓g_slt, ↓g_sll, ↓g_sls, ↓g_rng1, ↓g_rng2, ↓g_enum, ↓g_nm, ↓g_tp, ↓g_gc, ↓g_gn, ↓g_isIntD_non, ↓g_isIntD_bl, ↓g_isIntD_int, ↓g_isIntD_str, ↓g_isIntD_tup, ↓g_isIntD_lst, ↓g_isBoolD_non, ↓g_isBoolD_bl, ↓g_isBoolD_int, ↓g_isBoolD_str, ↓g_isBoolD_tup, ↓g_isBoolD_lst, ↓g_isTupD_non, ↓g_isTupD_bl, ↓g_isTupD_int, ↓g_isTupD_str, ↓g_isTupD_tup, ↓g_isTupD_lst, ↓g_isStrD_non, ↓g_isStrD_bl, ↓g_isStrD_int, ↓g_isStrD_str, ↓g_isStrD_tup, ↓g_isStrD_lst, ↓g_own_non, ↓g_own_bl, ↓g_own_int, ↓g_own_str, ↓g_own_tup, ↓g_own_lst, ↓g_own_ins, ↓g_eqi, ↓g_eqs, ↓g_nei, ↓g_nes, ↓p_bnd, ↓p_ret, ↓p_none, ↓p_fr, ↓p_and, ↓p_or, ↓p_not, ↓p_ifE, ↓p_bl, ↓p_nil, ↓p_cons, ↓p_tup, ↓p_lst, ↓p_drop, ↓p_rt, ↓p_mif, ↓p_for, ↓p_gNil, ↓p_gV, ↓p_gApp, ↓p_rV, ↓p_if, cs_un, cs_fr, List.length_cons, List.length_nil, List.length_map, Nat.zero_add, insD_i, decide_eq_true_eq, Bool.not_eq_true', Bool.not_true, Bool.not_false, decide_eq_false_iff_not, true_and, and_true, ne_eq, not_false_eq_true, List.lookup_cons, Nat.reduceAdd, isN_non, isN_bl, isN_int, isN_str, isN_tup, isN_lst, ↓reduceIte]
    exact ⟨by simp, by simp [putFd], h⟩
theorem of_spec {t ds : List D} {Q : Sl → List Sl → Prop} (hl : ds.length ≤ 100) (ht : IsTree t) (hg : Gates t.length ds) (h : Q (.ow none (rowO Z t ds)) [.fr (.tup t), .fr (.tup ds)]) :
    PostF (f_Doors_of Z) [.fr (.tup t), .fr (.tup ds)] Q := by
  unfold f_Doors_of b_Doors_of
  simp (decide := true) only [↓k_some, ↓k_no, ↓k_ite, ↓getK_0, ↓getK_s, ↓setK_0, ↓setK_s, ↓ff_0, ↓ff_s, ↓ff_o, ↓fo_l, ↓fo_i, ↓fk_fr, ↓fk_ow, ↓vk_fr, ↓vk_ow, ↓vw_fr, ↓vw_l, ↓mv_fr, ↓mv_ow, ↓sq_nx, ↓sq_bk, ↓sq_ct, ↓sq_rt, ↓fi_rt, ↓fi_nx, ↓ou_0, ↓ou_fr, ↓ou_ow, ↓ou_un, ↓ou_of, ↓ou_on, ↓un_00, ↓un_0s, ↓un_s, ↓rk_fr, ↓rk_un, ↓rk_ow, ↓ak_l, ↓lk_l, ↓si_l, ↓ls_0, ↓ls_s, ↓gb_fr, ↓gb_ow, ↓rb_fr, ↓rb_ow, ↓to_0, ↓to_v, ↓to_b, ↓to_map, ↓to_mapn, ↓tb_fr, ↓tb_ow, ↓bk_0, ↓bk_v, ↓bk_bi, ↓ba_0, ↓ba_s, ↓bk_mapf, ↓bk_mapn, ↓bb_fr, ↓bb_ow, ↓ui_un, ↓set_tag, ↓set_tagf, ↓df_0, ↓sp_0, ↓sp_n, ↓sp_s, ↓fs_0, ↓fs_s, ↓fs_map, ↓ct_0, ↓ct_fr, ↓ct_un, ↓ct_ow, ↓ap_00, ↓ap_0s, ↓ap_s, ↓as_0, ↓as_s, ↓in_v, ↓in_b, ↓ib_fr, ↓ib_ow, ↓fl_v, ↓fr_fd, ↓fl_b, ↓fb_fr, ↓fb_ow, ↓get_look, ↓ln_i, ↓sf_fr, ↓sf_ow, ↓mk_r, ↓w_var, ↓w_view, ↓w_lift, ↓w_frz, ↓w_m1, ↓w_m2, ↓w_mV2, ↓w_m2V, ↓w_tst, ↓w_isN, ↓w_notN, ↓bv_bl, ↓w_andV, ↓w_orV, ↓nv_bl, ↓w_notV, ↓w_ch, ↓pt_i, ↓w_part, ↓w_sl, ↓w_slV, ↓w_cal, ↓w_lenV, ↓w_is, ↓w_isO, ↓w_put, ↓w_set, ↓w_move, ↓w_seq, ↓w_asg, ↓w_app, ↓w_setI, ↓w_items, ↓w_gB, ↓w_rB, ↓w_cl, ↓w_callA, ↓w_gStar, ↓w_fld, ↓get_d1, ↓w_mth, ↓w_mthS, ↓w_prp, ↓w_lenO, ↓w_own2, ↓w_ownB, ↓w_augO, ↓w_setF, ↓w_fn, ↓w_mk, ↓w_arg, ↓w_any, ↓w_kw, ↓selR, ↓selA, ↓sQ_0, ↓sQ_s, ↓st_nx, ↓st_ct, ↓st_bk, ↓st_rt, ↓w_lc, ↓g_ixt, ↓g_ixl, ↓g_ixs, ↓at_0, ↓at_1, ↓at_2, ↓at_3, ↓ix_0, ↓ix_1, ↓ix_2, ↓g_addi, ↓g_adds, ↓g_addt, ↓g_addl, ↓g_muli, ↓g_mult, ↓g_mull, ↓g_sub, ↓g_div, ↓g_mod, ↓g_pow, ↓g_bD, ↓g_lt, ↓g_le, ↓g_gt, ↓g_ge, ↓g_neg, ↓g_bl, ↓g_int, ↓g_lent, ↓g_lenl, ↓g_lens, ↓g_list, ↓g_lisl, ↓g_tupt, ↓g_tupl, ↓g_max, ↓g_min, ↓g_itt, ↓g_itl, ↓g_its, ↓g_slt, ↓g_sll, ↓g_sls, ↓g_rng1, ↓g_rng2, ↓g_enum, ↓g_nm, ↓g_tp, ↓g_gc, ↓g_gn, ↓g_isIntD_non, ↓g_isIntD_bl, ↓g_isIntD_int, ↓g_isIntD_str, ↓g_isIntD_tup, ↓g_isIntD_lst, ↓g_isBoolD_non, ↓g_isBoolD_bl, ↓g_isBoolD_int, ↓g_isBoolD_str, ↓g_isBoolD_tup, ↓g_isBoolD_lst, ↓g_isTupD_non, ↓g_isTupD_bl, ↓g_isTupD_int, ↓g_isTupD_str, ↓g_isTupD_tup, ↓g_isTupD_lst, ↓g_isStrD_non, ↓g_isStrD_bl, ↓g_isStrD_int, ↓g_isStrD_str, ↓g_isStrD_tup, ↓g_isStrD_lst, ↓g_own_non, ↓g_own_bl, ↓g_own_int, ↓g_own_str, ↓g_own_tup, ↓g_own_lst, ↓g_own_ins, ↓g_eqi, ↓g_eqs, ↓g_nei, ↓g_nes, ↓p_bnd, ↓p_ret, ↓p_none, ↓p_fr, ↓p_and, ↓p_or, ↓p_not, ↓p_ifE, ↓p_bl, ↓p_nil, ↓p_cons, ↓p_tup, ↓p_lst, ↓p_drop, ↓p_rt, ↓p_mif, ↓p_for, ↓p_gNil, ↓p_gV, ↓p_gApp, ↓p_rV, ↓p_if, cs_un, cs_fr, List.length_cons, List.length_nil, List.length_map, Nat.zero_add, insD_i, decide_eq_true_eq, Bool.not_eq_true', Bool.not_true, Bool.not_false, decide_eq_false_iff_not, true_and, and_true, ne_eq, not_false_eq_true, List.lookup_cons, Nat.reduceAdd, isN_non, isN_bl, isN_int, isN_str, isN_tup, isN_lst, ↓reduceIte]
  refine need_tree_spec ht ?_
  simp (decide := true) only [↓k_some, ↓k_no, ↓k_ite, ↓getK_0, ↓getK_s, ↓setK_0, ↓setK_s, ↓ff_0, ↓ff_s, ↓ff_o, ↓fo_l, ↓fo_i, ↓fk_fr, ↓fk_ow, ↓vk_fr, ↓vk_ow, ↓vw_fr, ↓vw_l, ↓mv_fr, ↓mv_ow, ↓sq_nx, ↓sq_bk, ↓sq_ct, ↓sq_rt, ↓fi_rt, ↓fi_nx, ↓ou_0, ↓ou_fr, ↓ou_ow, ↓ou_un, ↓ou_of, ↓ou_on, ↓un_00, ↓un_0s, ↓un_s, ↓rk_fr, ↓rk_un, ↓rk_ow, ↓ak_l, ↓lk_l, ↓si_l, ↓ls_0, ↓ls_s, ↓gb_fr, ↓gb_ow, ↓rb_fr, ↓rb_ow, ↓to_0, ↓to_v, ↓to_b, ↓to_map, ↓to_mapn, ↓tb_fr, ↓tb_ow, ↓bk_0, ↓bk_v, ↓bk_bi, ↓ba_0, ↓ba_s, ↓bk_mapf, ↓bk_mapn, ↓bb_fr, ↓bb_ow, ↓ui_un, ↓set_tag, ↓set_tagf, ↓df_0, ↓sp_0, ↓sp_n, ↓sp_s, ↓fs_0, ↓fs_s, ↓fs_map, ↓ct_0, ↓ct_fr, ↓ct_un, ↓ct_ow, ↓ap_00, ↓ap_0s, ↓ap_s, ↓as_0, ↓as_s, ↓in_v, ↓in_b, ↓ib_fr, ↓ib_ow, ↓fl_v, ↓fr_fd, ↓fl_b, ↓fb_fr, ↓fb_ow, ↓get_look, ↓ln_i, ↓sf_fr, ↓sf_ow, ↓mk_r, ↓w_var, ↓w_view, ↓w_lift, ↓w_frz, ↓w_m1, ↓w_m2, ↓w_mV2, ↓w_m2V, ↓w_tst, ↓w_isN, ↓w_notN, ↓bv_bl, ↓w_andV, ↓w_orV, ↓nv_bl, ↓w_notV, ↓w_ch, ↓pt_i, ↓w_part, ↓w_sl, ↓w_slV, ↓w_cal, ↓w_lenV, ↓w_is, ↓w_isO, ↓w_put, ↓w_set, ↓w_move, ↓w_seq, ↓w_asg, ↓w_app, ↓w_setI, ↓w_items, ↓w_gB, ↓w_rB, ↓w_cl, ↓w_callA, ↓w_gStar, ↓w_fld, ↓get_d1, ↓w_mth, ↓w_mthS, ↓w_prp, ↓w_lenO, ↓w_own2, ↓w_ownB, ↓w_augO, ↓w_setF, ↓w_fn, ↓w_mk, ↓w_arg, ↓w_any, ↓w_kw, ↓selR, ↓selA, ↓sQ_0, ↓sQ_s, ↓st_nx, ↓st_ct, ↓st_bk, ↓st_rt, ↓w_lc, ↓g_ixt, ↓g_ixl, ↓g_ixs, ↓at_0, ↓at_1, ↓at_2, ↓at_3, ↓ix_0, ↓ix_1, ↓ix_2, ↓g_addi, ↓g_adds, ↓g_addt, ↓g_addl, ↓g_muli, ↓g_mult, ↓g_mull, ↓g_sub, ↓g_div, ↓g_mod, ↓g_pow, ↓g_bD, ↓g_lt, ↓g_le, ↓g_gt, ↓g_ge, ↓g_neg, ↓g_bl, ↓g_int, ↓g_lent, ↓g_lenl, ↓g_lens, ↓g_list, ↓g_lisl, ↓g_tupt, ↓g_tupl, ↓g_max, ↓g_min, ↓g_itt, ↓g_itl, ↓g_its, ↓g_slt, ↓g_sll, ↓g_sls, ↓g_rng1, ↓g_rng2, ↓g_enum, ↓g_nm, ↓g_tp, ↓g_gc, ↓g_gn, ↓g_isIntD_non, ↓g_isIntD_bl, ↓g_isIntD_int, ↓g_isIntD_str, ↓g_isIntD_tup, ↓g_isIntD_lst, ↓g_isBoolD_non, ↓g_isBoolD_bl, ↓g_isBoolD_int, ↓g_isBoolD_str, ↓g_isBoolD_tup, ↓g_isBoolD_lst, ↓g_isTupD_non, ↓g_isTupD_bl, ↓g_isTupD_int, ↓g_isTupD_str, ↓g_isTupD_tup, ↓g_isTupD_lst, ↓g_isStrD_non, ↓g_isStrD_bl, ↓g_isStrD_int, ↓g_isStrD_str, ↓g_isStrD_tup, ↓g_isStrD_lst, ↓g_own_non, ↓g_own_bl, ↓g_own_int, ↓g_own_str, ↓g_own_tup, ↓g_own_lst, ↓g_own_ins, ↓g_eqi, ↓g_eqs, ↓g_nei, ↓g_nes, ↓p_bnd, ↓p_ret, ↓p_none, ↓p_fr, ↓p_and, ↓p_or, ↓p_not, ↓p_ifE, ↓p_bl, ↓p_nil, ↓p_cons, ↓p_tup, ↓p_lst, ↓p_drop, ↓p_rt, ↓p_mif, ↓p_for, ↓p_gNil, ↓p_gV, ↓p_gApp, ↓p_rV, ↓p_if, cs_un, cs_fr, List.length_cons, List.length_nil, List.length_map, Nat.zero_add, insD_i, decide_eq_true_eq, Bool.not_eq_true', Bool.not_true, Bool.not_false, decide_eq_false_iff_not, true_and, and_true, ne_eq, not_false_eq_true, List.lookup_cons, Nat.reduceAdd, isN_non, isN_bl, isN_int, isN_str, isN_tup, isN_lst, ↓reduceIte]
  refine ⟨by omega, by omega, Nat.le_trans hl (by decide), init_spec ht hg ?_⟩
  simp (decide := true) only [rowO, ↓k_some, ↓k_no, ↓k_ite, ↓getK_0, ↓getK_s, ↓setK_0, ↓setK_s, ↓ff_0, ↓ff_s, ↓ff_o, ↓fo_l, ↓fo_i, ↓fk_fr, ↓fk_ow, ↓vk_fr, ↓vk_ow, ↓vw_fr, ↓vw_l, ↓mv_fr, ↓mv_ow, ↓sq_nx, ↓sq_bk, ↓sq_ct, ↓sq_rt, ↓fi_rt, ↓fi_nx, ↓ou_0, ↓ou_fr, ↓ou_ow, ↓ou_un, ↓ou_of, ↓ou_on, ↓un_00, ↓un_0s, ↓un_s, ↓rk_fr, ↓rk_un, ↓rk_ow, ↓ak_l, ↓lk_l, ↓si_l, ↓ls_0, ↓ls_s, ↓gb_fr, ↓gb_ow, ↓rb_fr, ↓rb_ow, ↓to_0, ↓to_v, ↓to_b, ↓to_map, ↓to_mapn, ↓tb_fr, ↓tb_ow, ↓bk_0, ↓bk_v, ↓bk_bi, ↓ba_0, ↓ba_s, ↓bk_mapf, ↓bk_mapn, ↓bb_fr, ↓bb_ow, ↓ui_un, ↓set_tag, ↓set_tagf, ↓df_0, ↓sp_0, ↓sp_n, ↓sp_s, ↓fs_0, ↓fs_s, ↓fs_map, ↓ct_0, ↓ct_fr, ↓ct_un, ↓ct_ow, ↓ap_00, ↓ap_0s, ↓ap_s, ↓as_0, ↓as_s, ↓in_v, ↓in_b, ↓ib_fr, ↓ib_ow, ↓fl_v, ↓fr_fd, ↓fl_b, ↓fb_fr, ↓fb_ow, ↓get_look, ↓ln_i, ↓sf_fr, ↓sf_ow, ↓mk_r, ↓w_var, ↓w_view, ↓w_lift, ↓w_frz, ↓w_m1, ↓w_m2, ↓w_mV2, ↓w_m2V, ↓w_tst, ↓w_isN, ↓w_notN, ↓bv_bl, ↓w_andV, ↓w_orV, ↓nv_bl, ↓w_notV, ↓w_ch, ↓pt_i, ↓w_part, ↓w_sl, ↓w_slV, ↓w_cal, ↓w_lenV, ↓w_is, ↓w_isO, ↓w_put, ↓w_set, ↓w_move, ↓w_seq, ↓w_asg, ↓w_app, ↓w_setI, ↓w_items, ↓w_gB, ↓w_rB, ↓w_cl, ↓w_callA, ↓w_gStar, ↓w_fld, ↓get_d1, ↓w_mth, ↓w_mthS, ↓w_prp, ↓w_lenO, ↓w_own2, ↓w_ownB, ↓w_augO, ↓w_setF, ↓w_fn, ↓w_mk, ↓w_arg, ↓w_any, ↓w_kw, ↓selR, ↓selA, ↓sQ_0, ↓sQ_s, ↓st_nx, ↓st_ct, ↓st_bk, ↓st_rt, ↓w_lc, ↓g_ixt, ↓g_ixl, ↓g_ixs, ↓at_0, ↓at_1, ↓at_2, ↓at_3, ↓ix_0, ↓ix_1, ↓ix_2, ↓g_addi, ↓g_adds, ↓g_addt, ↓g_addl, ↓g_muli, ↓g_mult, ↓g_mull, ↓g_sub, ↓g_div, ↓g_mod, ↓g_pow, ↓g_bD, ↓g_lt, ↓g_le, ↓g_gt, ↓g_ge, ↓g_neg, ↓g_bl, ↓g_int, ↓g_lent, ↓g_lenl, ↓g_lens, ↓g_list, ↓g_lisl, ↓g_tupt, ↓g_tupl, ↓g_max, ↓g_min, ↓g_itt, ↓g_itl, ↓g_its, ↓g_slt, ↓g_sll, ↓g_sls, ↓g_rng1, ↓g_rng2, ↓g_enum, ↓g_nm, ↓g_tp, ↓g_gc, ↓g_gn, ↓g_isIntD_non, ↓g_isIntD_bl, ↓g_isIntD_int, ↓g_isIntD_str, ↓g_isIntD_tup, ↓g_isIntD_lst, ↓g_isBoolD_non, ↓g_isBoolD_bl, ↓g_isBoolD_int, ↓g_isBoolD_str, ↓g_isBoolD_tup, ↓g_isBoolD_lst, ↓g_isTupD_non, ↓g_isTupD_bl, ↓g_isTupD_int, ↓g_isTupD_str, ↓g_isTupD_tup, ↓g_isTupD_lst, ↓g_isStrD_non, ↓g_isStrD_bl, ↓g_isStrD_int, ↓g_isStrD_str, ↓g_isStrD_tup, ↓g_isStrD_lst, ↓g_own_non, ↓g_own_bl, ↓g_own_int, ↓g_own_str, ↓g_own_tup, ↓g_own_lst, ↓g_own_ins, ↓g_eqi, ↓g_eqs, ↓g_nei, ↓g_nes, ↓p_bnd, ↓p_ret, ↓p_none, ↓p_fr, ↓p_and, ↓p_or, ↓p_not, ↓p_ifE, ↓p_bl, ↓p_nil, ↓p_cons, ↓p_tup, ↓p_lst, ↓p_drop, ↓p_rt, ↓p_mif, ↓p_for, ↓p_gNil, ↓p_gV, ↓p_gApp, ↓p_rV, ↓p_if, cs_un, cs_fr, List.length_cons, List.length_nil, List.length_map, Nat.zero_add, insD_i, decide_eq_true_eq, Bool.not_eq_true', Bool.not_true, Bool.not_false, decide_eq_false_iff_not, true_and, and_true, ne_eq, not_false_eq_true, List.lookup_cons, Nat.reduceAdd, isN_non, isN_bl, isN_int, isN_str, isN_tup, isN_lst, ↓reduceIte]
  exact h
theorem nice_ints : ∀ {is : List Int}, (∀ i ∈ is, 0 ≤ i ∧ i < 200) → niceDs (is.map .int) = true ∧ dpDs (is.map .int) = 0 ∧ blkDs (is.map .int) = is.length
  | [], _ => ⟨rfl, rfl, rfl⟩
  | i :: is, h => by
    obtain ⟨a, b, c⟩ := nice_ints (is := is) fun j hj => h j (List.mem_cons_of_mem _ hj)
    have hi := h i List.mem_cons_self
    refine ⟨?_, ?_, ?_⟩
    · show (decide (0 ≤ i ∧ i < 200) && niceDs (is.map .int)) = true
      rw [a, decide_eq_true hi]; rfl
    · show max 0 (dpDs (is.map .int)) = 0
      rw [b]; rfl
    · show 0 + 1 + blkDs (is.map .int) = is.length + 1
      omega
theorem nice_pairs : ∀ {ps : List (Int × Int)}, (∀ p ∈ ps, (0 ≤ p.1 ∧ p.1 < 200) ∧ 0 ≤ p.2 ∧ p.2 < 200) → niceDs (ps.map pairD) = true ∧ dpDs (ps.map pairD) ≤ 1 ∧ blkDs (ps.map pairD) = 3 * ps.length
  | [], _ => ⟨rfl, by decide, rfl⟩
  | p :: ps, h => by
    obtain ⟨a, b, c⟩ := nice_pairs (ps := ps) fun j hj => h j (List.mem_cons_of_mem _ hj)
    obtain ⟨h1, h2⟩ := h p List.mem_cons_self
    refine ⟨?_, ?_, ?_⟩
    · show ((decide (0 ≤ p.1 ∧ p.1 < 200) && (decide (0 ≤ p.2 ∧ p.2 < 200) && true)) && niceDs (ps.map pairD)) = true
      rw [a, decide_eq_true h1, decide_eq_true h2]; rfl
    · show max 1 (dpDs (ps.map pairD)) ≤ 1
      omega
    · show (0 + 1 + (0 + 1 + 0)) + 1 + blkDs (ps.map pairD) = 3 * (ps.length + 1)
      omega
theorem tree_nice {t : List D} (ht : IsTree t) : niceD (.tup t) = true ∧ dpD (.tup t) ≤ 2 ∧ blkD (.tup t) ≤ 20 := by
  obtain ⟨is, rfl, hl, hu⟩ := ht
  obtain ⟨a, b, c⟩ := nice_ints (is := is) fun i hi => by
    obtain ⟨k, hk, e⟩ := List.mem_iff_getElem.mp hi
    have := hu k i (by rw [← e]; simp [hk])
    omega
  refine ⟨a, ?_, ?_⟩
  · show max 0 (dpDs (is.map .int)) + 1 ≤ 2
    omega
  · show 0 + 1 + blkDs (is.map .int) ≤ 20
    omega
theorem gate_nice {s : Int} (hs : s ≤ 10) {d : D} (h : Gate s d) : niceD d = true ∧ dpD d ≤ 3 ∧ blkD d ≤ 100 := by
  have one : ∀ {w : Str} {l : List D}, words.contains w = true → w.cps.size ≤ 4 → niceDs l = true ∧ dpDs l ≤ 1 ∧ blkDs l ≤ 50 → niceD (.tup [.str w, .tup l]) = true ∧ dpD (.tup [.str w, .tup l]) ≤ 3 ∧ blkD (.tup [.str w, .tup l]) ≤ 100 := fun {w l} h1 h2 h3 => by
    refine ⟨?_, ?_, ?_⟩
    · show (words.contains w && (niceDs l && true)) = true
      rw [h1, h3.1]; rfl
    · show max 0 (max (dpDs l + 1) 0) + 1 ≤ 3
      omega
    · show w.cps.size + 1 + (blkDs l + 1 + 0) ≤ 100
      omega
  have is : ∀ {ws : List Int}, Wishes s ws → ws.length ≤ 40 → niceDs (ws.map .int) = true ∧ dpDs (ws.map .int) ≤ 1 ∧ blkDs (ws.map .int) ≤ 50 := fun {ws} hw hl => by
    obtain ⟨a, b, c⟩ := nice_ints (is := ws) fun i hi => by have := hw i hi; omega
    exact ⟨a, by omega, by omega⟩
  cases h with
  | head ws hw hl => exact one (by decide +kernel) (by decide +kernel) (is hw hl)
  | pad ws hw hl => exact one (by decide +kernel) (by decide +kernel) (is hw hl)
  | only ws hw hl => exact one (by decide +kernel) (by decide +kernel) (is hw.1 (by omega))
  | lift ws hw hl => exact one (by decide +kernel) (by decide +kernel) (is hw.1 (by omega))
  | swap ps hw hl =>
    obtain ⟨a, b, c⟩ := nice_pairs (ps := ps) fun i hi => by have := hw.1 i hi; omega
    exact one (by decide +kernel) (by decide +kernel) ⟨a, by omega, by omega⟩
theorem gates_nice {t : List D} (ht : IsTree t) : ∀ {ds : List D}, Gates t.length ds → niceDs ds = true ∧ dpDs ds ≤ 3 ∧ blkDs ds ≤ 101 * ds.length
  | [], _ => ⟨rfl, by decide, by decide⟩
  | d :: ds, h => by
    obtain ⟨a, b, c⟩ := gates_nice ht (ds := ds) fun j hj => h j (List.mem_cons_of_mem _ hj)
    obtain ⟨x, y, z⟩ := gate_nice (by have := tree_len ht; omega) (h d List.mem_cons_self)
    refine ⟨?_, ?_, ?_⟩
    · show (niceD d && niceDs ds) = true
      rw [a, x]; rfl
    · show max (dpD d) (dpDs ds) ≤ 3
      omega
    · show blkD d + 1 + blkDs ds ≤ 101 * (ds.length + 1)
      omega
theorem len_spec {t ds : List D} {Q : Sl → List Sl → Prop} (h : Q (.fr (.int ds.length)) [.fr (rowD Z t ds)]) : PostF (f_Doors_len Z) [.fr (rowD Z t ds)] Q := by
  unfold f_Doors_len b_Doors_len
  unfold rowD at h ⊢
  simp (decide := true) only [↓k_some, ↓k_no, ↓k_ite, ↓getK_0, ↓getK_s, ↓setK_0, ↓setK_s, ↓ff_0, ↓ff_s, ↓ff_o, ↓fo_l, ↓fo_i, ↓fk_fr, ↓fk_ow, ↓vk_fr, ↓vk_ow, ↓vw_fr, ↓vw_l, ↓mv_fr, ↓mv_ow, ↓sq_nx, ↓sq_bk, ↓sq_ct, ↓sq_rt, ↓fi_rt, ↓fi_nx, ↓ou_0, ↓ou_fr, ↓ou_ow, ↓ou_un, ↓ou_of, ↓ou_on, ↓un_00, ↓un_0s, ↓un_s, ↓rk_fr, ↓rk_un, ↓rk_ow, ↓ak_l, ↓lk_l, ↓si_l, ↓ls_0, ↓ls_s, ↓gb_fr, ↓gb_ow, ↓rb_fr, ↓rb_ow, ↓to_0, ↓to_v, ↓to_b, ↓to_map, ↓to_mapn, ↓tb_fr, ↓tb_ow, ↓bk_0, ↓bk_v, ↓bk_bi, ↓ba_0, ↓ba_s, ↓bk_mapf, ↓bk_mapn, ↓bb_fr, ↓bb_ow, ↓ui_un, ↓set_tag, ↓set_tagf, ↓df_0, ↓sp_0, ↓sp_n, ↓sp_s, ↓fs_0, ↓fs_s, ↓fs_map, ↓ct_0, ↓ct_fr, ↓ct_un, ↓ct_ow, ↓ap_00, ↓ap_0s, ↓ap_s, ↓as_0, ↓as_s, ↓in_v, ↓in_b, ↓ib_fr, ↓ib_ow, ↓fl_v, ↓fr_fd, ↓fl_b, ↓fb_fr, ↓fb_ow, ↓get_look, ↓ln_i, ↓sf_fr, ↓sf_ow, ↓mk_r, ↓w_var, ↓w_view, ↓w_lift, ↓w_frz, ↓w_m1, ↓w_m2, ↓w_mV2, ↓w_m2V, ↓w_tst, ↓w_isN, ↓w_notN, ↓bv_bl, ↓w_andV, ↓w_orV, ↓nv_bl, ↓w_notV, ↓w_ch, ↓pt_i, ↓w_part, ↓w_sl, ↓w_slV, ↓w_cal, ↓w_lenV, ↓w_is, ↓w_isO, ↓w_put, ↓w_set, ↓w_move, ↓w_seq, ↓w_asg, ↓w_app, ↓w_setI, ↓w_items, ↓w_gB, ↓w_rB, ↓w_cl, ↓w_callA, ↓w_gStar, ↓w_fld, ↓get_d1, ↓w_mth, ↓w_mthS, ↓w_prp, ↓w_lenO, ↓w_own2, ↓w_ownB, ↓w_augO, ↓w_setF, ↓w_fn, ↓w_mk, ↓w_arg, ↓w_any, ↓w_kw, ↓selR, ↓selA, ↓sQ_0, ↓sQ_s, ↓st_nx, ↓st_ct, ↓st_bk, ↓st_rt, ↓w_lc, ↓g_ixt, ↓g_ixl, ↓g_ixs, ↓at_0, ↓at_1, ↓at_2, ↓at_3, ↓ix_0, ↓ix_1, ↓ix_2, ↓g_addi, ↓g_adds, ↓g_addt, ↓g_addl, ↓g_muli, ↓g_mult, ↓g_mull, ↓g_sub, ↓g_div, ↓g_mod, ↓g_pow, ↓g_bD, ↓g_lt, ↓g_le, ↓g_gt, ↓g_ge, ↓g_neg, ↓g_bl, ↓g_int, ↓g_lent, ↓g_lenl, ↓g_lens, ↓g_list, ↓g_lisl, ↓g_tupt, ↓g_tupl, ↓g_max, ↓g_min, ↓g_itt, ↓g_itl, ↓g_its, ↓g_slt, ↓g_sll, ↓g_sls, ↓g_rng1, ↓g_rng2, ↓g_enum, ↓g_nm, ↓g_tp, ↓g_gc, ↓g_gn, ↓g_isIntD_non, ↓g_isIntD_bl, ↓g_isIntD_int, ↓g_isIntD_str, ↓g_isIntD_tup, ↓g_isIntD_lst, ↓g_isBoolD_non, ↓g_isBoolD_bl, ↓g_isBoolD_int, ↓g_isBoolD_str, ↓g_isBoolD_tup, ↓g_isBoolD_lst, ↓g_isTupD_non, ↓g_isTupD_bl, ↓g_isTupD_int, ↓g_isTupD_str, ↓g_isTupD_tup, ↓g_isTupD_lst, ↓g_isStrD_non, ↓g_isStrD_bl, ↓g_isStrD_int, ↓g_isStrD_str, ↓g_isStrD_tup, ↓g_isStrD_lst, ↓g_own_non, ↓g_own_bl, ↓g_own_int, ↓g_own_str, ↓g_own_tup, ↓g_own_lst, ↓g_own_ins, ↓g_eqi, ↓g_eqs, ↓g_nei, ↓g_nes, ↓p_bnd, ↓p_ret, ↓p_none, ↓p_fr, ↓p_and, ↓p_or, ↓p_not, ↓p_ifE, ↓p_bl, ↓p_nil, ↓p_cons, ↓p_tup, ↓p_lst, ↓p_drop, ↓p_rt, ↓p_mif, ↓p_for, ↓p_gNil, ↓p_gV, ↓p_gApp, ↓p_rV, ↓p_if, cs_un, cs_fr, List.length_cons, List.length_nil, List.length_map, Nat.zero_add, insD_i, decide_eq_true_eq, Bool.not_eq_true', Bool.not_true, Bool.not_false, decide_eq_false_iff_not, true_and, and_true, ne_eq, not_false_eq_true, List.lookup_cons, Nat.reduceAdd, isN_non, isN_bl, isN_int, isN_str, isN_tup, isN_lst, ↓reduceIte]
  exact ⟨by simp, h⟩
theorem ptree_spec {t ds : List D} {Q : Sl → List Sl → Prop} (h : Q (.fr (.tup t)) [.fr (rowD Z t ds)]) : PostF (f_Doors_tree Z) [.fr (rowD Z t ds)] Q := by
  unfold f_Doors_tree b_Doors_tree
  unfold rowD at h ⊢
  simp (decide := true) only [↓k_some, ↓k_no, ↓k_ite, ↓getK_0, ↓getK_s, ↓setK_0, ↓setK_s, ↓ff_0, ↓ff_s, ↓ff_o, ↓fo_l, ↓fo_i, ↓fk_fr, ↓fk_ow, ↓vk_fr, ↓vk_ow, ↓vw_fr, ↓vw_l, ↓mv_fr, ↓mv_ow, ↓sq_nx, ↓sq_bk, ↓sq_ct, ↓sq_rt, ↓fi_rt, ↓fi_nx, ↓ou_0, ↓ou_fr, ↓ou_ow, ↓ou_un, ↓ou_of, ↓ou_on, ↓un_00, ↓un_0s, ↓un_s, ↓rk_fr, ↓rk_un, ↓rk_ow, ↓ak_l, ↓lk_l, ↓si_l, ↓ls_0, ↓ls_s, ↓gb_fr, ↓gb_ow, ↓rb_fr, ↓rb_ow, ↓to_0, ↓to_v, ↓to_b, ↓to_map, ↓to_mapn, ↓tb_fr, ↓tb_ow, ↓bk_0, ↓bk_v, ↓bk_bi, ↓ba_0, ↓ba_s, ↓bk_mapf, ↓bk_mapn, ↓bb_fr, ↓bb_ow, ↓ui_un, ↓set_tag, ↓set_tagf, ↓df_0, ↓sp_0, ↓sp_n, ↓sp_s, ↓fs_0, ↓fs_s, ↓fs_map, ↓ct_0, ↓ct_fr, ↓ct_un, ↓ct_ow, ↓ap_00, ↓ap_0s, ↓ap_s, ↓as_0, ↓as_s, ↓in_v, ↓in_b, ↓ib_fr, ↓ib_ow, ↓fl_v, ↓fr_fd, ↓fl_b, ↓fb_fr, ↓fb_ow, ↓get_look, ↓ln_i, ↓sf_fr, ↓sf_ow, ↓mk_r, ↓w_var, ↓w_view, ↓w_lift, ↓w_frz, ↓w_m1, ↓w_m2, ↓w_mV2, ↓w_m2V, ↓w_tst, ↓w_isN, ↓w_notN, ↓bv_bl, ↓w_andV, ↓w_orV, ↓nv_bl, ↓w_notV, ↓w_ch, ↓pt_i, ↓w_part, ↓w_sl, ↓w_slV, ↓w_cal, ↓w_lenV, ↓w_is, ↓w_isO, ↓w_put, ↓w_set, ↓w_move, ↓w_seq, ↓w_asg, ↓w_app, ↓w_setI, ↓w_items, ↓w_gB, ↓w_rB, ↓w_cl, ↓w_callA, ↓w_gStar, ↓w_fld, ↓get_d1, ↓w_mth, ↓w_mthS, ↓w_prp, ↓w_lenO, ↓w_own2, ↓w_ownB, ↓w_augO, ↓w_setF, ↓w_fn, ↓w_mk, ↓w_arg, ↓w_any, ↓w_kw, ↓selR, ↓selA, ↓sQ_0, ↓sQ_s, ↓st_nx, ↓st_ct, ↓st_bk, ↓st_rt, ↓w_lc, ↓g_ixt, ↓g_ixl, ↓g_ixs, ↓at_0, ↓at_1, ↓at_2, ↓at_3, ↓ix_0, ↓ix_1, ↓ix_2, ↓g_addi, ↓g_adds, ↓g_addt, ↓g_addl, ↓g_muli, ↓g_mult, ↓g_mull, ↓g_sub, ↓g_div, ↓g_mod, ↓g_pow, ↓g_bD, ↓g_lt, ↓g_le, ↓g_gt, ↓g_ge, ↓g_neg, ↓g_bl, ↓g_int, ↓g_lent, ↓g_lenl, ↓g_lens, ↓g_list, ↓g_lisl, ↓g_tupt, ↓g_tupl, ↓g_max, ↓g_min, ↓g_itt, ↓g_itl, ↓g_its, ↓g_slt, ↓g_sll, ↓g_sls, ↓g_rng1, ↓g_rng2, ↓g_enum, ↓g_nm, ↓g_tp, ↓g_gc, ↓g_gn, ↓g_isIntD_non, ↓g_isIntD_bl, ↓g_isIntD_int, ↓g_isIntD_str, ↓g_isIntD_tup, ↓g_isIntD_lst, ↓g_isBoolD_non, ↓g_isBoolD_bl, ↓g_isBoolD_int, ↓g_isBoolD_str, ↓g_isBoolD_tup, ↓g_isBoolD_lst, ↓g_isTupD_non, ↓g_isTupD_bl, ↓g_isTupD_int, ↓g_isTupD_str, ↓g_isTupD_tup, ↓g_isTupD_lst, ↓g_isStrD_non, ↓g_isStrD_bl, ↓g_isStrD_int, ↓g_isStrD_str, ↓g_isStrD_tup, ↓g_isStrD_lst, ↓g_own_non, ↓g_own_bl, ↓g_own_int, ↓g_own_str, ↓g_own_tup, ↓g_own_lst, ↓g_own_ins, ↓g_eqi, ↓g_eqs, ↓g_nei, ↓g_nes, ↓p_bnd, ↓p_ret, ↓p_none, ↓p_fr, ↓p_and, ↓p_or, ↓p_not, ↓p_ifE, ↓p_bl, ↓p_nil, ↓p_cons, ↓p_tup, ↓p_lst, ↓p_drop, ↓p_rt, ↓p_mif, ↓p_for, ↓p_gNil, ↓p_gV, ↓p_gApp, ↓p_rV, ↓p_if, cs_un, cs_fr, List.length_cons, List.length_nil, List.length_map, Nat.zero_add, insD_i, decide_eq_true_eq, Bool.not_eq_true', Bool.not_true, Bool.not_false, decide_eq_false_iff_not, true_and, and_true, ne_eq, not_false_eq_true, List.lookup_cons, Nat.reduceAdd, isN_non, isN_bl, isN_int, isN_str, isN_tup, isN_lst, ↓reduceIte]
  exact ⟨by simp, h⟩
theorem pdoors_spec {t ds : List D} {Q : Sl → List Sl → Prop} (h : Q (.fr (.tup ds)) [.fr (rowD Z t ds)]) : PostF (f_Doors_doors Z) [.fr (rowD Z t ds)] Q := by
  unfold f_Doors_doors b_Doors_doors
  unfold rowD at h ⊢
  simp (decide := true) only [↓k_some, ↓k_no, ↓k_ite, ↓getK_0, ↓getK_s, ↓setK_0, ↓setK_s, ↓ff_0, ↓ff_s, ↓ff_o, ↓fo_l, ↓fo_i, ↓fk_fr, ↓fk_ow, ↓vk_fr, ↓vk_ow, ↓vw_fr, ↓vw_l, ↓mv_fr, ↓mv_ow, ↓sq_nx, ↓sq_bk, ↓sq_ct, ↓sq_rt, ↓fi_rt, ↓fi_nx, ↓ou_0, ↓ou_fr, ↓ou_ow, ↓ou_un, ↓ou_of, ↓ou_on, ↓un_00, ↓un_0s, ↓un_s, ↓rk_fr, ↓rk_un, ↓rk_ow, ↓ak_l, ↓lk_l, ↓si_l, ↓ls_0, ↓ls_s, ↓gb_fr, ↓gb_ow, ↓rb_fr, ↓rb_ow, ↓to_0, ↓to_v, ↓to_b, ↓to_map, ↓to_mapn, ↓tb_fr, ↓tb_ow, ↓bk_0, ↓bk_v, ↓bk_bi, ↓ba_0, ↓ba_s, ↓bk_mapf, ↓bk_mapn, ↓bb_fr, ↓bb_ow, ↓ui_un, ↓set_tag, ↓set_tagf, ↓df_0, ↓sp_0, ↓sp_n, ↓sp_s, ↓fs_0, ↓fs_s, ↓fs_map, ↓ct_0, ↓ct_fr, ↓ct_un, ↓ct_ow, ↓ap_00, ↓ap_0s, ↓ap_s, ↓as_0, ↓as_s, ↓in_v, ↓in_b, ↓ib_fr, ↓ib_ow, ↓fl_v, ↓fr_fd, ↓fl_b, ↓fb_fr, ↓fb_ow, ↓get_look, ↓ln_i, ↓sf_fr, ↓sf_ow, ↓mk_r, ↓w_var, ↓w_view, ↓w_lift, ↓w_frz, ↓w_m1, ↓w_m2, ↓w_mV2, ↓w_m2V, ↓w_tst, ↓w_isN, ↓w_notN, ↓bv_bl, ↓w_andV, ↓w_orV, ↓nv_bl, ↓w_notV, ↓w_ch, ↓pt_i, ↓w_part, ↓w_sl, ↓w_slV, ↓w_cal, ↓w_lenV, ↓w_is, ↓w_isO, ↓w_put, ↓w_set, ↓w_move, ↓w_seq, ↓w_asg, ↓w_app, ↓w_setI, ↓w_items, ↓w_gB, ↓w_rB, ↓w_cl, ↓w_callA, ↓w_gStar, ↓w_fld, ↓get_d1, ↓w_mth, ↓w_mthS, ↓w_prp, ↓w_lenO, ↓w_own2, ↓w_ownB, ↓w_augO, ↓w_setF, ↓w_fn, ↓w_mk, ↓w_arg, ↓w_any, ↓w_kw, ↓selR, ↓selA, ↓sQ_0, ↓sQ_s, ↓st_nx, ↓st_ct, ↓st_bk, ↓st_rt, ↓w_lc, ↓g_ixt, ↓g_ixl, ↓g_ixs, ↓at_0, ↓at_1, ↓at_2, ↓at_3, ↓ix_0, ↓ix_1, ↓ix_2, ↓g_addi, ↓g_adds, ↓g_addt, ↓g_addl, ↓g_muli, ↓g_mult, ↓g_mull, ↓g_sub, ↓g_div, ↓g_mod, ↓g_pow, ↓g_bD, ↓g_lt, ↓g_le, ↓g_gt, ↓g_ge, ↓g_neg, ↓g_bl, ↓g_int, ↓g_lent, ↓g_lenl, ↓g_lens, ↓g_list, ↓g_lisl, ↓g_tupt, ↓g_tupl, ↓g_max, ↓g_min, ↓g_itt, ↓g_itl, ↓g_its, ↓g_slt, ↓g_sll, ↓g_sls, ↓g_rng1, ↓g_rng2, ↓g_enum, ↓g_nm, ↓g_tp, ↓g_gc, ↓g_gn, ↓g_isIntD_non, ↓g_isIntD_bl, ↓g_isIntD_int, ↓g_isIntD_str, ↓g_isIntD_tup, ↓g_isIntD_lst, ↓g_isBoolD_non, ↓g_isBoolD_bl, ↓g_isBoolD_int, ↓g_isBoolD_str, ↓g_isBoolD_tup, ↓g_isBoolD_lst, ↓g_isTupD_non, ↓g_isTupD_bl, ↓g_isTupD_int, ↓g_isTupD_str, ↓g_isTupD_tup, ↓g_isTupD_lst, ↓g_isStrD_non, ↓g_isStrD_bl, ↓g_isStrD_int, ↓g_isStrD_str, ↓g_isStrD_tup, ↓g_isStrD_lst, ↓g_own_non, ↓g_own_bl, ↓g_own_int, ↓g_own_str, ↓g_own_tup, ↓g_own_lst, ↓g_own_ins, ↓g_eqi, ↓g_eqs, ↓g_nei, ↓g_nes, ↓p_bnd, ↓p_ret, ↓p_none, ↓p_fr, ↓p_and, ↓p_or, ↓p_not, ↓p_ifE, ↓p_bl, ↓p_nil, ↓p_cons, ↓p_tup, ↓p_lst, ↓p_drop, ↓p_rt, ↓p_mif, ↓p_for, ↓p_gNil, ↓p_gV, ↓p_gApp, ↓p_rV, ↓p_if, cs_un, cs_fr, List.length_cons, List.length_nil, List.length_map, Nat.zero_add, insD_i, decide_eq_true_eq, Bool.not_eq_true', Bool.not_true, Bool.not_false, decide_eq_false_iff_not, true_and, and_true, ne_eq, not_false_eq_true, List.lookup_cons, Nat.reduceAdd, isN_non, isN_bl, isN_int, isN_str, isN_tup, isN_lst, ↓reduceIte]
  exact ⟨by simp, h⟩
theorem item_spec {t ds : List D} {k : Nat} {d : D} {Q : Sl → List Sl → Prop} (e : ds[k]? = some d) (h : Q (.fr d) [.fr (rowD Z t ds), .fr (.int k)]) : PostF (f_Doors_getitem Z) [.fr (rowD Z t ds), .fr (.int k)] Q := by
  unfold f_Doors_getitem b_Doors_getitem
  unfold rowD at h ⊢
  simp (decide := true) only [↓k_some, ↓k_no, ↓k_ite, ↓getK_0, ↓getK_s, ↓setK_0, ↓setK_s, ↓ff_0, ↓ff_s, ↓ff_o, ↓fo_l, ↓fo_i, ↓fk_fr, ↓fk_ow, ↓vk_fr, ↓vk_ow, ↓vw_fr, ↓vw_l, ↓mv_fr, ↓mv_ow, ↓sq_nx, ↓sq_bk, ↓sq_ct, ↓sq_rt, ↓fi_rt, ↓fi_nx, ↓ou_0, ↓ou_fr, ↓ou_ow, ↓ou_un, ↓ou_of, ↓ou_on, ↓un_00, ↓un_0s, ↓un_s, ↓rk_fr, ↓rk_un, ↓rk_ow, ↓ak_l, ↓lk_l, ↓si_l, ↓ls_0, ↓ls_s, ↓gb_fr, ↓gb_ow, ↓rb_fr, ↓rb_ow, ↓to_0, ↓to_v, ↓to_b, ↓to_map, ↓to_mapn, ↓tb_fr, ↓tb_ow, ↓bk_0, ↓bk_v, ↓bk_bi, ↓ba_0, ↓ba_s, ↓bk_mapf, ↓bk_mapn, ↓bb_fr, ↓bb_ow, ↓ui_un, ↓set_tag, ↓set_tagf, ↓df_0, ↓sp_0, ↓sp_n, ↓sp_s, ↓fs_0, ↓fs_s, ↓fs_map, ↓ct_0, ↓ct_fr, ↓ct_un, ↓ct_ow, ↓ap_00, ↓ap_0s, ↓ap_s, ↓as_0, ↓as_s, ↓in_v, ↓in_b, ↓ib_fr, ↓ib_ow, ↓fl_v, ↓fr_fd, ↓fl_b, ↓fb_fr, ↓fb_ow, ↓get_look, ↓ln_i, ↓sf_fr, ↓sf_ow, ↓mk_r, ↓w_var, ↓w_view, ↓w_lift, ↓w_frz, ↓w_m1, ↓w_m2, ↓w_mV2, ↓w_m2V, ↓w_tst, ↓w_isN, ↓w_notN, ↓bv_bl, ↓w_andV, ↓w_orV, ↓nv_bl, ↓w_notV, ↓w_ch, ↓pt_i, ↓w_part, ↓w_sl, ↓w_slV, ↓w_cal, ↓w_lenV, ↓w_is, ↓w_isO, ↓w_put, ↓w_set, ↓w_move, ↓w_seq, ↓w_asg, ↓w_app, ↓w_setI, ↓w_items, ↓w_gB, ↓w_rB, ↓w_cl, ↓w_callA, ↓w_gStar, ↓w_fld, ↓get_d1, ↓w_mth, ↓w_mthS, ↓w_prp, ↓w_lenO, ↓w_own2, ↓w_ownB, ↓w_augO, ↓w_setF, ↓w_fn, ↓w_mk, ↓w_arg, ↓w_any, ↓w_kw, ↓selR, ↓selA, ↓sQ_0, ↓sQ_s, ↓st_nx, ↓st_ct, ↓st_bk, ↓st_rt, ↓w_lc, ↓g_ixt, ↓g_ixl, ↓g_ixs, ↓at_0, ↓at_1, ↓at_2, ↓at_3, ↓ix_0, ↓ix_1, ↓ix_2, ↓g_addi, ↓g_adds, ↓g_addt, ↓g_addl, ↓g_muli, ↓g_mult, ↓g_mull, ↓g_sub, ↓g_div, ↓g_mod, ↓g_pow, ↓g_bD, ↓g_lt, ↓g_le, ↓g_gt, ↓g_ge, ↓g_neg, ↓g_bl, ↓g_int, ↓g_lent, ↓g_lenl, ↓g_lens, ↓g_list, ↓g_lisl, ↓g_tupt, ↓g_tupl, ↓g_max, ↓g_min, ↓g_itt, ↓g_itl, ↓g_its, ↓g_slt, ↓g_sll, ↓g_sls, ↓g_rng1, ↓g_rng2, ↓g_enum, ↓g_nm, ↓g_tp, ↓g_gc, ↓g_gn, ↓g_isIntD_non, ↓g_isIntD_bl, ↓g_isIntD_int, ↓g_isIntD_str, ↓g_isIntD_tup, ↓g_isIntD_lst, ↓g_isBoolD_non, ↓g_isBoolD_bl, ↓g_isBoolD_int, ↓g_isBoolD_str, ↓g_isBoolD_tup, ↓g_isBoolD_lst, ↓g_isTupD_non, ↓g_isTupD_bl, ↓g_isTupD_int, ↓g_isTupD_str, ↓g_isTupD_tup, ↓g_isTupD_lst, ↓g_isStrD_non, ↓g_isStrD_bl, ↓g_isStrD_int, ↓g_isStrD_str, ↓g_isStrD_tup, ↓g_isStrD_lst, ↓g_own_non, ↓g_own_bl, ↓g_own_int, ↓g_own_str, ↓g_own_tup, ↓g_own_lst, ↓g_own_ins, ↓g_eqi, ↓g_eqs, ↓g_nei, ↓g_nes, ↓p_bnd, ↓p_ret, ↓p_none, ↓p_fr, ↓p_and, ↓p_or, ↓p_not, ↓p_ifE, ↓p_bl, ↓p_nil, ↓p_cons, ↓p_tup, ↓p_lst, ↓p_drop, ↓p_rt, ↓p_mif, ↓p_for, ↓p_gNil, ↓p_gV, ↓p_gApp, ↓p_rV, ↓p_if, cs_un, cs_fr, List.length_cons, List.length_nil, List.length_map, Nat.zero_add, insD_i, decide_eq_true_eq, Bool.not_eq_true', Bool.not_true, Bool.not_false, decide_eq_false_iff_not, true_and, and_true, ne_eq, not_false_eq_true, List.lookup_cons, Nat.reduceAdd, isN_non, isN_bl, isN_int, isN_str, isN_tup, isN_lst, ↓reduceIte]
  have il := (List.getElem?_eq_some_iff.mp e).1
  have e1 : L2.atI ds (k : Int) = some d := atI_in (by omega) (by simpa using e)
  rw [if_pos (by omega), if_neg (by omega)]
  refine ⟨by simp, by simp, ?_⟩
  simp (decide := true) only [e1, ↓k_some, ↓k_no, ↓k_ite, ↓getK_0, ↓getK_s, ↓setK_0, ↓setK_s, ↓ff_0, ↓ff_s, ↓ff_o, ↓fo_l, ↓fo_i, ↓fk_fr, ↓fk_ow, ↓vk_fr, ↓vk_ow, ↓vw_fr, ↓vw_l, ↓mv_fr, ↓mv_ow, ↓sq_nx, ↓sq_bk, ↓sq_ct, ↓sq_rt, ↓fi_rt, ↓fi_nx, ↓ou_0, ↓ou_fr, ↓ou_ow, ↓ou_un, ↓ou_of, ↓ou_on, ↓un_00, ↓un_0s, ↓un_s, ↓rk_fr, ↓rk_un, ↓rk_ow, ↓ak_l, ↓lk_l, ↓si_l, ↓ls_0, ↓ls_s, ↓gb_fr, ↓gb_ow, ↓rb_fr, ↓rb_ow, ↓to_0, ↓to_v, ↓to_b, ↓to_map, ↓to_mapn, ↓tb_fr, ↓tb_ow, ↓bk_0, ↓bk_v, ↓bk_bi, ↓ba_0, ↓ba_s, ↓bk_mapf, ↓bk_mapn, ↓bb_fr, ↓bb_ow, ↓ui_un, ↓set_tag, ↓set_tagf, ↓df_0, ↓sp_0, ↓sp_n, ↓sp_s, ↓fs_0, ↓fs_s, ↓fs_map, ↓ct_0, ↓ct_fr, ↓ct_un, ↓ct_ow, ↓ap_00, ↓ap_0s, ↓ap_s, ↓as_0, ↓as_s, ↓in_v, ↓in_b, ↓ib_fr, ↓ib_ow, ↓fl_v, ↓fr_fd, ↓fl_b, ↓fb_fr, ↓fb_ow, ↓get_look, ↓ln_i, ↓sf_fr, ↓sf_ow, ↓mk_r, ↓w_var, ↓w_view, ↓w_lift, ↓w_frz, ↓w_m1, ↓w_m2, ↓w_mV2, ↓w_m2V, ↓w_tst, ↓w_isN, ↓w_notN, ↓bv_bl, ↓w_andV, ↓w_orV, ↓nv_bl, ↓w_notV, ↓w_ch, ↓pt_i, ↓w_part, ↓w_sl, ↓w_slV, ↓w_cal, ↓w_lenV, ↓w_is, ↓w_isO, ↓w_put, ↓w_set, ↓w_move, ↓w_seq, ↓w_asg, ↓w_app, ↓w_setI, ↓w_items, ↓w_gB, ↓w_rB, ↓w_cl, ↓w_callA, ↓w_gStar, ↓w_fld, ↓get_d1, ↓w_mth, ↓w_mthS, ↓w_prp, ↓w_lenO, ↓w_own2, ↓w_ownB, ↓w_augO, ↓w_setF, ↓w_fn, ↓w_mk, ↓w_arg, ↓w_any, ↓w_kw, ↓selR, ↓selA, ↓sQ_0, ↓sQ_s, ↓st_nx, ↓st_ct, ↓st_bk, ↓st_rt, ↓w_lc, ↓g_ixt, ↓g_ixl, ↓g_ixs, ↓at_0, ↓at_1, ↓at_2, ↓at_3, ↓ix_0, ↓ix_1, ↓ix_2, ↓g_addi, ↓g_adds, ↓g_addt, ↓g_addl, ↓g_muli, ↓g_mult, ↓g_mull, ↓g_sub, ↓g_div, ↓g_mod, ↓g_pow, ↓g_bD, ↓g_lt, ↓g_le, ↓g_gt, ↓g_ge, ↓g_neg, ↓g_bl, ↓g_int, ↓g_lent, ↓g_lenl, ↓g_lens, ↓g_list, ↓g_lisl, ↓g_tupt, ↓g_tupl, ↓g_max, ↓g_min, ↓g_itt, ↓g_itl, ↓g_its, ↓g_slt, ↓g_sll, ↓g_sls, ↓g_rng1, ↓g_rng2, ↓g_enum, ↓g_nm, ↓g_tp, ↓g_gc, ↓g_gn, ↓g_isIntD_non, ↓g_isIntD_bl, ↓g_isIntD_int, ↓g_isIntD_str, ↓g_isIntD_tup, ↓g_isIntD_lst, ↓g_isBoolD_non, ↓g_isBoolD_bl, ↓g_isBoolD_int, ↓g_isBoolD_str, ↓g_isBoolD_tup, ↓g_isBoolD_lst, ↓g_isTupD_non, ↓g_isTupD_bl, ↓g_isTupD_int, ↓g_isTupD_str, ↓g_isTupD_tup, ↓g_isTupD_lst, ↓g_isStrD_non, ↓g_isStrD_bl, ↓g_isStrD_int, ↓g_isStrD_str, ↓g_isStrD_tup, ↓g_isStrD_lst, ↓g_own_non, ↓g_own_bl, ↓g_own_int, ↓g_own_str, ↓g_own_tup, ↓g_own_lst, ↓g_own_ins, ↓g_eqi, ↓g_eqs, ↓g_nei, ↓g_nes, ↓p_bnd, ↓p_ret, ↓p_none, ↓p_fr, ↓p_and, ↓p_or, ↓p_not, ↓p_ifE, ↓p_bl, ↓p_nil, ↓p_cons, ↓p_tup, ↓p_lst, ↓p_drop, ↓p_rt, ↓p_mif, ↓p_for, ↓p_gNil, ↓p_gV, ↓p_gApp, ↓p_rV, ↓p_if, cs_un, cs_fr, List.length_cons, List.length_nil, List.length_map, Nat.zero_add, insD_i, decide_eq_true_eq, Bool.not_eq_true', Bool.not_true, Bool.not_false, decide_eq_false_iff_not, true_and, and_true, ne_eq, not_false_eq_true, List.lookup_cons, Nat.reduceAdd, isN_non, isN_bl, isN_int, isN_str, isN_tup, isN_lst, ↓reduceIte]
  exact h
/-- a row by value, or a row that this def is lent -/
def RS (Z : Cs) (t ds : List D) (s : Sl) : Prop := s = .fr (rowD Z t ds) ∨ s = .ow (some 0) (rowO Z t ds)
theorem like_spec {t ds es : List D} {s : Sl} {Q : Sl → List Sl → Prop} (ht : IsTree t) (hs : RS Z t ds s) (h : Q (.fr .non) [s, .fr (rowD Z t es)]) : PostF (f_Doors_need_like Z) [s, .fr (rowD Z t es)] Q := by
  unfold f_Doors_need_like b_Doors_need_like
  rcases hs with rfl | rfl
  all_goals
    simp (decide := true) only [rowD, rowO, ↓k_some, ↓k_no, ↓k_ite, ↓getK_0, ↓getK_s, ↓setK_0, ↓setK_s, ↓ff_0, ↓ff_s, ↓ff_o, ↓fo_l, ↓fo_i, ↓fk_fr, ↓fk_ow, ↓vk_fr, ↓vk_ow, ↓vw_fr, ↓vw_l, ↓mv_fr, ↓mv_ow, ↓sq_nx, ↓sq_bk, ↓sq_ct, ↓sq_rt, ↓fi_rt, ↓fi_nx, ↓ou_0, ↓ou_fr, ↓ou_ow, ↓ou_un, ↓ou_of, ↓ou_on, ↓un_00, ↓un_0s, ↓un_s, ↓rk_fr, ↓rk_un, ↓rk_ow, ↓ak_l, ↓lk_l, ↓si_l, ↓ls_0, ↓ls_s, ↓gb_fr, ↓gb_ow, ↓rb_fr, ↓rb_ow, ↓to_0, ↓to_v, ↓to_b, ↓to_map, ↓to_mapn, ↓tb_fr, ↓tb_ow, ↓bk_0, ↓bk_v, ↓bk_bi, ↓ba_0, ↓ba_s, ↓bk_mapf, ↓bk_mapn, ↓bb_fr, ↓bb_ow, ↓ui_un, ↓set_tag, ↓set_tagf, ↓df_0, ↓sp_0, ↓sp_n, ↓sp_s, ↓fs_0, ↓fs_s, ↓fs_map, ↓ct_0, ↓ct_fr, ↓ct_un, ↓ct_ow, ↓ap_00, ↓ap_0s, ↓ap_s, ↓as_0, ↓as_s, ↓in_v, ↓in_b, ↓ib_fr, ↓ib_ow, ↓fl_v, ↓fr_fd, ↓fl_b, ↓fb_fr, ↓fb_ow, ↓get_look, ↓ln_i, ↓sf_fr, ↓sf_ow, ↓mk_r, ↓w_var, ↓w_view, ↓w_lift, ↓w_frz, ↓w_m1, ↓w_m2, ↓w_mV2, ↓w_m2V, ↓w_tst, ↓w_isN, ↓w_notN, ↓bv_bl, ↓w_andV, ↓w_orV, ↓nv_bl, ↓w_notV, ↓w_ch, ↓pt_i, ↓w_part, ↓w_sl, ↓w_slV, ↓w_cal, ↓w_lenV, ↓w_is, ↓w_isO, ↓w_put, ↓w_set, ↓w_move, ↓w_seq, ↓w_asg, ↓w_app, ↓w_setI, ↓w_items, ↓w_gB, ↓w_rB, ↓w_cl, ↓w_callA, ↓w_gStar, ↓w_fld, ↓get_d1, ↓w_mth, ↓w_mthS, ↓w_prp, ↓w_lenO, ↓w_own2, ↓w_ownB, ↓w_augO, ↓w_setF, ↓w_fn, ↓w_mk, ↓w_arg, ↓w_any, ↓w_kw, ↓selR, ↓selA, ↓sQ_0, ↓sQ_s, ↓st_nx, ↓st_ct, ↓st_bk, ↓st_rt, ↓w_lc, ↓g_ixt, ↓g_ixl, ↓g_ixs, ↓at_0, ↓at_1, ↓at_2, ↓at_3, ↓ix_0, ↓ix_1, ↓ix_2, ↓g_addi, ↓g_adds, ↓g_addt, ↓g_addl, ↓g_muli, ↓g_mult, ↓g_mull, ↓g_sub, ↓g_div, ↓g_mod, ↓g_pow, ↓g_bD, ↓g_lt, ↓g_le, ↓g_gt, ↓g_ge, ↓g_neg, ↓g_bl, ↓g_int, ↓g_lent, ↓g_lenl, ↓g_lens, ↓g_list, ↓g_lisl, ↓g_tupt, ↓g_tupl, ↓g_max, ↓g_min, ↓g_itt, ↓g_itl, ↓g_its, ↓g_slt, ↓g_sll, ↓g_sls, ↓g_rng1, ↓g_rng2, ↓g_enum, ↓g_nm, ↓g_tp, ↓g_gc, ↓g_gn, ↓g_isIntD_non, ↓g_isIntD_bl, ↓g_isIntD_int, ↓g_isIntD_str, ↓g_isIntD_tup, ↓g_isIntD_lst, ↓g_isBoolD_non, ↓g_isBoolD_bl, ↓g_isBoolD_int, ↓g_isBoolD_str, ↓g_isBoolD_tup, ↓g_isBoolD_lst, ↓g_isTupD_non, ↓g_isTupD_bl, ↓g_isTupD_int, ↓g_isTupD_str, ↓g_isTupD_tup, ↓g_isTupD_lst, ↓g_isStrD_non, ↓g_isStrD_bl, ↓g_isStrD_int, ↓g_isStrD_str, ↓g_isStrD_tup, ↓g_isStrD_lst, ↓g_own_non, ↓g_own_bl, ↓g_own_int, ↓g_own_str, ↓g_own_tup, ↓g_own_lst, ↓g_own_ins, ↓g_eqi, ↓g_eqs, ↓g_nei, ↓g_nes, ↓p_bnd, ↓p_ret, ↓p_none, ↓p_fr, ↓p_and, ↓p_or, ↓p_not, ↓p_ifE, ↓p_bl, ↓p_nil, ↓p_cons, ↓p_tup, ↓p_lst, ↓p_drop, ↓p_rt, ↓p_mif, ↓p_for, ↓p_gNil, ↓p_gV, ↓p_gApp, ↓p_rV, ↓p_if, cs_un, cs_fr, List.length_cons, List.length_nil, List.length_map, Nat.zero_add, insD_i, decide_eq_true_eq, Bool.not_eq_true', Bool.not_true, Bool.not_false, decide_eq_false_iff_not, true_and, and_true, ne_eq, not_false_eq_true, List.lookup_cons, Nat.reduceAdd, isN_non, isN_bl, isN_int, isN_str, isN_tup, isN_lst, ↓reduceIte]
    refine ⟨by simp, by simp, ?_⟩
    rw [ne_same (tree_nice ht).1 (by have := (tree_nice ht).2.1; omega)]
    simp (decide := true) only [↓k_some, ↓k_no, ↓k_ite, ↓getK_0, ↓getK_s, ↓setK_0, ↓setK_s, ↓ff_0, ↓ff_s, ↓ff_o, ↓fo_l, ↓fo_i, ↓fk_fr, ↓fk_ow, ↓vk_fr, ↓vk_ow, ↓vw_fr, ↓vw_l, ↓mv_fr, ↓mv_ow, ↓sq_nx, ↓sq_bk, ↓sq_ct, ↓sq_rt, ↓fi_rt, ↓fi_nx, ↓ou_0, ↓ou_fr, ↓ou_ow, ↓ou_un, ↓ou_of, ↓ou_on, ↓un_00, ↓un_0s, ↓un_s, ↓rk_fr, ↓rk_un, ↓rk_ow, ↓ak_l, ↓lk_l, ↓si_l, ↓ls_0, ↓ls_s, ↓gb_fr, ↓gb_ow, ↓rb_fr, ↓rb_ow, ↓to_0, ↓to_v, ↓to_b, ↓to_map, ↓to_mapn, ↓tb_fr, ↓tb_ow, ↓bk_0, ↓bk_v, ↓bk_bi, ↓ba_0, ↓ba_s, ↓bk_mapf, ↓bk_mapn, ↓bb_fr, ↓bb_ow, ↓ui_un, ↓set_tag, ↓set_tagf, ↓df_0, ↓sp_0, ↓sp_n, ↓sp_s, ↓fs_0, ↓fs_s, ↓fs_map, ↓ct_0, ↓ct_fr, ↓ct_un, ↓ct_ow, ↓ap_00, ↓ap_0s, ↓ap_s, ↓as_0, ↓as_s, ↓in_v, ↓in_b, ↓ib_fr, ↓ib_ow, ↓fl_v, ↓fr_fd, ↓fl_b, ↓fb_fr, ↓fb_ow, ↓get_look, ↓ln_i, ↓sf_fr, ↓sf_ow, ↓mk_r, ↓w_var, ↓w_view, ↓w_lift, ↓w_frz, ↓w_m1, ↓w_m2, ↓w_mV2, ↓w_m2V, ↓w_tst, ↓w_isN, ↓w_notN, ↓bv_bl, ↓w_andV, ↓w_orV, ↓nv_bl, ↓w_notV, ↓w_ch, ↓pt_i, ↓w_part, ↓w_sl, ↓w_slV, ↓w_cal, ↓w_lenV, ↓w_is, ↓w_isO, ↓w_put, ↓w_set, ↓w_move, ↓w_seq, ↓w_asg, ↓w_app, ↓w_setI, ↓w_items, ↓w_gB, ↓w_rB, ↓w_cl, ↓w_callA, ↓w_gStar, ↓w_fld, ↓get_d1, ↓w_mth, ↓w_mthS, ↓w_prp, ↓w_lenO, ↓w_own2, ↓w_ownB, ↓w_augO, ↓w_setF, ↓w_fn, ↓w_mk, ↓w_arg, ↓w_any, ↓w_kw, ↓selR, ↓selA, ↓sQ_0, ↓sQ_s, ↓st_nx, ↓st_ct, ↓st_bk, ↓st_rt, ↓w_lc, ↓g_ixt, ↓g_ixl, ↓g_ixs, ↓at_0, ↓at_1, ↓at_2, ↓at_3, ↓ix_0, ↓ix_1, ↓ix_2, ↓g_addi, ↓g_adds, ↓g_addt, ↓g_addl, ↓g_muli, ↓g_mult, ↓g_mull, ↓g_sub, ↓g_div, ↓g_mod, ↓g_pow, ↓g_bD, ↓g_lt, ↓g_le, ↓g_gt, ↓g_ge, ↓g_neg, ↓g_bl, ↓g_int, ↓g_lent, ↓g_lenl, ↓g_lens, ↓g_list, ↓g_lisl, ↓g_tupt, ↓g_tupl, ↓g_max, ↓g_min, ↓g_itt, ↓g_itl, ↓g_its, ↓g_slt, ↓g_sll, ↓g_sls, ↓g_rng1, ↓g_rng2, ↓g_enum, ↓g_nm, ↓g_tp, ↓g_gc, ↓g_gn, ↓g_isIntD_non, ↓g_isIntD_bl, ↓g_isIntD_int, ↓g_isIntD_str, ↓g_isIntD_tup, ↓g_isIntD_lst, ↓g_isBoolD_non, ↓g_isBoolD_bl, ↓g_isBoolD_int, ↓g_isBoolD_str, ↓g_isBoolD_tup, ↓g_isBoolD_lst, ↓g_isTupD_non, ↓g_isTupD_bl, ↓g_isTupD_int, ↓g_isTupD_str, ↓g_isTupD_tup, ↓g_isTupD_lst, ↓g_isStrD_non, ↓g_isStrD_bl, ↓g_isStrD_int, ↓g_isStrD_str, ↓g_isStrD_tup, ↓g_isStrD_lst, ↓g_own_non, ↓g_own_bl, ↓g_own_int, ↓g_own_str, ↓g_own_tup, ↓g_own_lst, ↓g_own_ins, ↓g_eqi, ↓g_eqs, ↓g_nei, ↓g_nes, ↓p_bnd, ↓p_ret, ↓p_none, ↓p_fr, ↓p_and, ↓p_or, ↓p_not, ↓p_ifE, ↓p_bl, ↓p_nil, ↓p_cons, ↓p_tup, ↓p_lst, ↓p_drop, ↓p_rt, ↓p_mif, ↓p_for, ↓p_gNil, ↓p_gV, ↓p_gApp, ↓p_rV, ↓p_if, cs_un, cs_fr, List.length_cons, List.length_nil, List.length_map, Nat.zero_add, insD_i, decide_eq_true_eq, Bool.not_eq_true', Bool.not_true, Bool.not_false, decide_eq_false_iff_not, true_and, and_true, ne_eq, not_false_eq_true, List.lookup_cons, Nat.reduceAdd, isN_non, isN_bl, isN_int, isN_str, isN_tup, isN_lst, ↓reduceIte]
    exact h
theorem fields_spec {t ds : List D} {Q : Sl → List Sl → Prop} (ht : IsTree t) (hg : Gates t.length ds) (hl : ds.length ≤ 100) (h : Q (.fr (.bl true)) [.fr (rowD Z t ds), .fr (.tup t), .fr (.tup ds)]) :
    PostF (f_l_fields Z) [.fr (rowD Z t ds), .fr (.tup t), .fr (.tup ds)] Q := by
  unfold f_l_fields b_l_fields
  obtain ⟨n1, n2, n3⟩ := tree_nice ht
  obtain ⟨m1, m2, m3⟩ := gates_nice ht hg
  obtain ⟨s1, hs1, sh1⟩ := sh_of n1 (by omega) (by omega)
  obtain ⟨s2, hs2, sh2⟩ := sh_of (d := .tup ds) m1 (by show dpDs ds + 1 ≤ 60; omega) (by show blkDs ds ≤ 1000000; omega)
  obtain ⟨s3, hs3, sh3⟩ := sh_of (d := .lst ds) m1 (by show dpDs ds + 1 ≤ 60; omega) (by show blkDs ds ≤ 1000000; omega)
  unfold rowD
  simp (decide := true) only [g_repr hs1, g_repr hs2, g_repr hs3, ↓k_some, ↓k_no, ↓k_ite, ↓getK_0, ↓getK_s, ↓setK_0, ↓setK_s, ↓ff_0, ↓ff_s, ↓ff_o, ↓fo_l, ↓fo_i, ↓fk_fr, ↓fk_ow, ↓vk_fr, ↓vk_ow, ↓vw_fr, ↓vw_l, ↓mv_fr, ↓mv_ow, ↓sq_nx, ↓sq_bk, ↓sq_ct, ↓sq_rt, ↓fi_rt, ↓fi_nx, ↓ou_0, ↓ou_fr, ↓ou_ow, ↓ou_un, ↓ou_of, ↓ou_on, ↓un_00, ↓un_0s, ↓un_s, ↓rk_fr, ↓rk_un, ↓rk_ow, ↓ak_l, ↓lk_l, ↓si_l, ↓ls_0, ↓ls_s, ↓gb_fr, ↓gb_ow, ↓rb_fr, ↓rb_ow, ↓to_0, ↓to_v, ↓to_b, ↓to_map, ↓to_mapn, ↓tb_fr, ↓tb_ow, ↓bk_0, ↓bk_v, ↓bk_bi, ↓ba_0, ↓ba_s, ↓bk_mapf, ↓bk_mapn, ↓bb_fr, ↓bb_ow, ↓ui_un, ↓set_tag, ↓set_tagf, ↓df_0, ↓sp_0, ↓sp_n, ↓sp_s, ↓fs_0, ↓fs_s, ↓fs_map, ↓ct_0, ↓ct_fr, ↓ct_un, ↓ct_ow, ↓ap_00, ↓ap_0s, ↓ap_s, ↓as_0, ↓as_s, ↓in_v, ↓in_b, ↓ib_fr, ↓ib_ow, ↓fl_v, ↓fr_fd, ↓fl_b, ↓fb_fr, ↓fb_ow, ↓get_look, ↓ln_i, ↓sf_fr, ↓sf_ow, ↓mk_r, ↓w_var, ↓w_view, ↓w_lift, ↓w_frz, ↓w_m1, ↓w_m2, ↓w_mV2, ↓w_m2V, ↓w_tst, ↓w_isN, ↓w_notN, ↓bv_bl, ↓w_andV, ↓w_orV, ↓nv_bl, ↓w_notV, ↓w_ch, ↓pt_i, ↓w_part, ↓w_sl, ↓w_slV, ↓w_cal, ↓w_lenV, ↓w_is, ↓w_isO, ↓w_put, ↓w_set, ↓w_move, ↓w_seq, ↓w_asg, ↓w_app, ↓w_setI, ↓w_items, ↓w_gB, ↓w_rB, ↓w_cl, ↓w_callA, ↓w_gStar, ↓w_fld, ↓get_d1, ↓w_mth, ↓w_mthS, ↓w_prp, ↓w_lenO, ↓w_own2, ↓w_ownB, ↓w_augO, ↓w_setF, ↓w_fn, ↓w_mk, ↓w_arg, ↓w_any, ↓w_kw, ↓selR, ↓selA, ↓sQ_0, ↓sQ_s, ↓st_nx, ↓st_ct, ↓st_bk, ↓st_rt, ↓w_lc, ↓g_ixt, ↓g_ixl, ↓g_ixs, ↓at_0, ↓at_1, ↓at_2, ↓at_3, ↓ix_0, ↓ix_1, ↓ix_2, ↓g_addi, ↓g_adds, ↓g_addt, ↓g_addl, ↓g_muli, ↓g_mult, ↓g_mull, ↓g_sub, ↓g_div, ↓g_mod, ↓g_pow, ↓g_bD, ↓g_lt, ↓g_le, ↓g_gt, ↓g_ge, ↓g_neg, ↓g_bl, ↓g_int, ↓g_lent, ↓g_lenl, ↓g_lens, ↓g_list, ↓g_lisl, ↓g_tupt, ↓g_tupl, ↓g_max, ↓g_min, ↓g_itt, ↓g_itl, ↓g_its, ↓g_slt, ↓g_sll, ↓g_sls, ↓g_rng1, ↓g_rng2, ↓g_enum, ↓g_nm, ↓g_tp, ↓g_gc, ↓g_gn, ↓g_isIntD_non, ↓g_isIntD_bl, ↓g_isIntD_int, ↓g_isIntD_str, ↓g_isIntD_tup, ↓g_isIntD_lst, ↓g_isBoolD_non, ↓g_isBoolD_bl, ↓g_isBoolD_int, ↓g_isBoolD_str, ↓g_isBoolD_tup, ↓g_isBoolD_lst, ↓g_isTupD_non, ↓g_isTupD_bl, ↓g_isTupD_int, ↓g_isTupD_str, ↓g_isTupD_tup, ↓g_isTupD_lst, ↓g_isStrD_non, ↓g_isStrD_bl, ↓g_isStrD_int, ↓g_isStrD_str, ↓g_isStrD_tup, ↓g_isStrD_lst, ↓g_own_non, ↓g_own_bl, ↓g_own_int, ↓g_own_str, ↓g_own_tup, ↓g_own_lst, ↓g_own_ins, ↓g_eqi, ↓g_eqs, ↓g_nei, ↓g_nes, ↓p_bnd, ↓p_ret, ↓p_none, ↓p_fr, ↓p_and, ↓p_or, ↓p_not, ↓p_ifE, ↓p_bl, ↓p_nil, ↓p_cons, ↓p_tup, ↓p_lst, ↓p_drop, ↓p_rt, ↓p_mif, ↓p_for, ↓p_gNil, ↓p_gV, ↓p_gApp, ↓p_rV, ↓p_if, cs_un, cs_fr, List.length_cons, List.length_nil, List.length_map, Nat.zero_add, insD_i, decide_eq_true_eq, Bool.not_eq_true', Bool.not_true, Bool.not_false, decide_eq_false_iff_not, true_and, and_true, ne_eq, not_false_eq_true, List.lookup_cons, Nat.reduceAdd, isN_non, isN_bl, isN_int, isN_str, isN_tup, isN_lst, ↓reduceIte]
  refine ⟨by rfl, ptree_spec ?_⟩
  unfold rowD
  simp (decide := true) only [sh1, g_repr hs1, g_repr hs2, g_repr hs3, ↓k_some, ↓k_no, ↓k_ite, ↓getK_0, ↓getK_s, ↓setK_0, ↓setK_s, ↓ff_0, ↓ff_s, ↓ff_o, ↓fo_l, ↓fo_i, ↓fk_fr, ↓fk_ow, ↓vk_fr, ↓vk_ow, ↓vw_fr, ↓vw_l, ↓mv_fr, ↓mv_ow, ↓sq_nx, ↓sq_bk, ↓sq_ct, ↓sq_rt, ↓fi_rt, ↓fi_nx, ↓ou_0, ↓ou_fr, ↓ou_ow, ↓ou_un, ↓ou_of, ↓ou_on, ↓un_00, ↓un_0s, ↓un_s, ↓rk_fr, ↓rk_un, ↓rk_ow, ↓ak_l, ↓lk_l, ↓si_l, ↓ls_0, ↓ls_s, ↓gb_fr, ↓gb_ow, ↓rb_fr, ↓rb_ow, ↓to_0, ↓to_v, ↓to_b, ↓to_map, ↓to_mapn, ↓tb_fr, ↓tb_ow, ↓bk_0, ↓bk_v, ↓bk_bi, ↓ba_0, ↓ba_s, ↓bk_mapf, ↓bk_mapn, ↓bb_fr, ↓bb_ow, ↓ui_un, ↓set_tag, ↓set_tagf, ↓df_0, ↓sp_0, ↓sp_n, ↓sp_s, ↓fs_0, ↓fs_s, ↓fs_map, ↓ct_0, ↓ct_fr, ↓ct_un, ↓ct_ow, ↓ap_00, ↓ap_0s, ↓ap_s, ↓as_0, ↓as_s, ↓in_v, ↓in_b, ↓ib_fr, ↓ib_ow, ↓fl_v, ↓fr_fd, ↓fl_b, ↓fb_fr, ↓fb_ow, ↓get_look, ↓ln_i, ↓sf_fr, ↓sf_ow, ↓mk_r, ↓w_var, ↓w_view, ↓w_lift, ↓w_frz, ↓w_m1, ↓w_m2, ↓w_mV2, ↓w_m2V, ↓w_tst, ↓w_isN, ↓w_notN, ↓bv_bl, ↓w_andV, ↓w_orV, ↓nv_bl, ↓w_notV, ↓w_ch, ↓pt_i, ↓w_part, ↓w_sl, ↓w_slV, ↓w_cal, ↓w_lenV, ↓w_is, ↓w_isO, ↓w_put, ↓w_set, ↓w_move, ↓w_seq, ↓w_asg, ↓w_app, ↓w_setI, ↓w_items, ↓w_gB, ↓w_rB, ↓w_cl, ↓w_callA, ↓w_gStar, ↓w_fld, ↓get_d1, ↓w_mth, ↓w_mthS, ↓w_prp, ↓w_lenO, ↓w_own2, ↓w_ownB, ↓w_augO, ↓w_setF, ↓w_fn, ↓w_mk, ↓w_arg, ↓w_any, ↓w_kw, ↓selR, ↓selA, ↓sQ_0, ↓sQ_s, ↓st_nx, ↓st_ct, ↓st_bk, ↓st_rt, ↓w_lc, ↓g_ixt, ↓g_ixl, ↓g_ixs, ↓at_0, ↓at_1, ↓at_2, ↓at_3, ↓ix_0, ↓ix_1, ↓ix_2, ↓g_addi, ↓g_adds, ↓g_addt, ↓g_addl, ↓g_muli, ↓g_mult, ↓g_mull, ↓g_sub, ↓g_div, ↓g_mod, ↓g_pow, ↓g_bD, ↓g_lt, ↓g_le, ↓g_gt, ↓g_ge, ↓g_neg, ↓g_bl, ↓g_int, ↓g_lent, ↓g_lenl, ↓g_lens, ↓g_list, ↓g_lisl, ↓g_tupt, ↓g_tupl, ↓g_max, ↓g_min, ↓g_itt, ↓g_itl, ↓g_its, ↓g_slt, ↓g_sll, ↓g_sls, ↓g_rng1, ↓g_rng2, ↓g_enum, ↓g_nm, ↓g_tp, ↓g_gc, ↓g_gn, ↓g_isIntD_non, ↓g_isIntD_bl, ↓g_isIntD_int, ↓g_isIntD_str, ↓g_isIntD_tup, ↓g_isIntD_lst, ↓g_isBoolD_non, ↓g_isBoolD_bl, ↓g_isBoolD_int, ↓g_isBoolD_str, ↓g_isBoolD_tup, ↓g_isBoolD_lst, ↓g_isTupD_non, ↓g_isTupD_bl, ↓g_isTupD_int, ↓g_isTupD_str, ↓g_isTupD_tup, ↓g_isTupD_lst, ↓g_isStrD_non, ↓g_isStrD_bl, ↓g_isStrD_int, ↓g_isStrD_str, ↓g_isStrD_tup, ↓g_isStrD_lst, ↓g_own_non, ↓g_own_bl, ↓g_own_int, ↓g_own_str, ↓g_own_tup, ↓g_own_lst, ↓g_own_ins, ↓g_eqi, ↓g_eqs, ↓g_nei, ↓g_nes, ↓p_bnd, ↓p_ret, ↓p_none, ↓p_fr, ↓p_and, ↓p_or, ↓p_not, ↓p_ifE, ↓p_bl, ↓p_nil, ↓p_cons, ↓p_tup, ↓p_lst, ↓p_drop, ↓p_rt, ↓p_mif, ↓p_for, ↓p_gNil, ↓p_gV, ↓p_gApp, ↓p_rV, ↓p_if, cs_un, cs_fr, List.length_cons, List.length_nil, List.length_map, Nat.zero_add, insD_i, decide_eq_true_eq, Bool.not_eq_true', Bool.not_true, Bool.not_false, decide_eq_false_iff_not, true_and, and_true, ne_eq, not_false_eq_true, List.lookup_cons, Nat.reduceAdd, isN_non, isN_bl, isN_int, isN_str, isN_tup, isN_lst, ↓reduceIte]
  refine ⟨by rfl, pdoors_spec ?_⟩
  unfold rowD
  simp (decide := true) only [sh2, g_repr hs1, g_repr hs2, g_repr hs3, ↓k_some, ↓k_no, ↓k_ite, ↓getK_0, ↓getK_s, ↓setK_0, ↓setK_s, ↓ff_0, ↓ff_s, ↓ff_o, ↓fo_l, ↓fo_i, ↓fk_fr, ↓fk_ow, ↓vk_fr, ↓vk_ow, ↓vw_fr, ↓vw_l, ↓mv_fr, ↓mv_ow, ↓sq_nx, ↓sq_bk, ↓sq_ct, ↓sq_rt, ↓fi_rt, ↓fi_nx, ↓ou_0, ↓ou_fr, ↓ou_ow, ↓ou_un, ↓ou_of, ↓ou_on, ↓un_00, ↓un_0s, ↓un_s, ↓rk_fr, ↓rk_un, ↓rk_ow, ↓ak_l, ↓lk_l, ↓si_l, ↓ls_0, ↓ls_s, ↓gb_fr, ↓gb_ow, ↓rb_fr, ↓rb_ow, ↓to_0, ↓to_v, ↓to_b, ↓to_map, ↓to_mapn, ↓tb_fr, ↓tb_ow, ↓bk_0, ↓bk_v, ↓bk_bi, ↓ba_0, ↓ba_s, ↓bk_mapf, ↓bk_mapn, ↓bb_fr, ↓bb_ow, ↓ui_un, ↓set_tag, ↓set_tagf, ↓df_0, ↓sp_0, ↓sp_n, ↓sp_s, ↓fs_0, ↓fs_s, ↓fs_map, ↓ct_0, ↓ct_fr, ↓ct_un, ↓ct_ow, ↓ap_00, ↓ap_0s, ↓ap_s, ↓as_0, ↓as_s, ↓in_v, ↓in_b, ↓ib_fr, ↓ib_ow, ↓fl_v, ↓fr_fd, ↓fl_b, ↓fb_fr, ↓fb_ow, ↓get_look, ↓ln_i, ↓sf_fr, ↓sf_ow, ↓mk_r, ↓w_var, ↓w_view, ↓w_lift, ↓w_frz, ↓w_m1, ↓w_m2, ↓w_mV2, ↓w_m2V, ↓w_tst, ↓w_isN, ↓w_notN, ↓bv_bl, ↓w_andV, ↓w_orV, ↓nv_bl, ↓w_notV, ↓w_ch, ↓pt_i, ↓w_part, ↓w_sl, ↓w_slV, ↓w_cal, ↓w_lenV, ↓w_is, ↓w_isO, ↓w_put, ↓w_set, ↓w_move, ↓w_seq, ↓w_asg, ↓w_app, ↓w_setI, ↓w_items, ↓w_gB, ↓w_rB, ↓w_cl, ↓w_callA, ↓w_gStar, ↓w_fld, ↓get_d1, ↓w_mth, ↓w_mthS, ↓w_prp, ↓w_lenO, ↓w_own2, ↓w_ownB, ↓w_augO, ↓w_setF, ↓w_fn, ↓w_mk, ↓w_arg, ↓w_any, ↓w_kw, ↓selR, ↓selA, ↓sQ_0, ↓sQ_s, ↓st_nx, ↓st_ct, ↓st_bk, ↓st_rt, ↓w_lc, ↓g_ixt, ↓g_ixl, ↓g_ixs, ↓at_0, ↓at_1, ↓at_2, ↓at_3, ↓ix_0, ↓ix_1, ↓ix_2, ↓g_addi, ↓g_adds, ↓g_addt, ↓g_addl, ↓g_muli, ↓g_mult, ↓g_mull, ↓g_sub, ↓g_div, ↓g_mod, ↓g_pow, ↓g_bD, ↓g_lt, ↓g_le, ↓g_gt, ↓g_ge, ↓g_neg, ↓g_bl, ↓g_int, ↓g_lent, ↓g_lenl, ↓g_lens, ↓g_list, ↓g_lisl, ↓g_tupt, ↓g_tupl, ↓g_max, ↓g_min, ↓g_itt, ↓g_itl, ↓g_its, ↓g_slt, ↓g_sll, ↓g_sls, ↓g_rng1, ↓g_rng2, ↓g_enum, ↓g_nm, ↓g_tp, ↓g_gc, ↓g_gn, ↓g_isIntD_non, ↓g_isIntD_bl, ↓g_isIntD_int, ↓g_isIntD_str, ↓g_isIntD_tup, ↓g_isIntD_lst, ↓g_isBoolD_non, ↓g_isBoolD_bl, ↓g_isBoolD_int, ↓g_isBoolD_str, ↓g_isBoolD_tup, ↓g_isBoolD_lst, ↓g_isTupD_non, ↓g_isTupD_bl, ↓g_isTupD_int, ↓g_isTupD_str, ↓g_isTupD_tup, ↓g_isTupD_lst, ↓g_isStrD_non, ↓g_isStrD_bl, ↓g_isStrD_int, ↓g_isStrD_str, ↓g_isStrD_tup, ↓g_isStrD_lst, ↓g_own_non, ↓g_own_bl, ↓g_own_int, ↓g_own_str, ↓g_own_tup, ↓g_own_lst, ↓g_own_ins, ↓g_eqi, ↓g_eqs, ↓g_nei, ↓g_nes, ↓p_bnd, ↓p_ret, ↓p_none, ↓p_fr, ↓p_and, ↓p_or, ↓p_not, ↓p_ifE, ↓p_bl, ↓p_nil, ↓p_cons, ↓p_tup, ↓p_lst, ↓p_drop, ↓p_rt, ↓p_mif, ↓p_for, ↓p_gNil, ↓p_gV, ↓p_gApp, ↓p_rV, ↓p_if, cs_un, cs_fr, List.length_cons, List.length_nil, List.length_map, Nat.zero_add, insD_i, decide_eq_true_eq, Bool.not_eq_true', Bool.not_true, Bool.not_false, decide_eq_false_iff_not, true_and, and_true, ne_eq, not_false_eq_true, List.lookup_cons, Nat.reduceAdd, isN_non, isN_bl, isN_int, isN_str, isN_tup, isN_lst, ↓reduceIte]
  refine ⟨by rfl, len_spec ?_⟩
  unfold rowD
  simp (decide := true) only [sh2, g_repr hs1, g_repr hs2, g_repr hs3, ↓k_some, ↓k_no, ↓k_ite, ↓getK_0, ↓getK_s, ↓setK_0, ↓setK_s, ↓ff_0, ↓ff_s, ↓ff_o, ↓fo_l, ↓fo_i, ↓fk_fr, ↓fk_ow, ↓vk_fr, ↓vk_ow, ↓vw_fr, ↓vw_l, ↓mv_fr, ↓mv_ow, ↓sq_nx, ↓sq_bk, ↓sq_ct, ↓sq_rt, ↓fi_rt, ↓fi_nx, ↓ou_0, ↓ou_fr, ↓ou_ow, ↓ou_un, ↓ou_of, ↓ou_on, ↓un_00, ↓un_0s, ↓un_s, ↓rk_fr, ↓rk_un, ↓rk_ow, ↓ak_l, ↓lk_l, ↓si_l, ↓ls_0, ↓ls_s, ↓gb_fr, ↓gb_ow, ↓rb_fr, ↓rb_ow, ↓to_0, ↓to_v, ↓to_b, ↓to_map, ↓to_mapn, ↓tb_fr, ↓tb_ow, ↓bk_0, ↓bk_v, ↓bk_bi, ↓ba_0, ↓ba_s, ↓bk_mapf, ↓bk_mapn, ↓bb_fr, ↓bb_ow, ↓ui_un, ↓set_tag, ↓set_tagf, ↓df_0, ↓sp_0, ↓sp_n, ↓sp_s, ↓fs_0, ↓fs_s, ↓fs_map, ↓ct_0, ↓ct_fr, ↓ct_un, ↓ct_ow, ↓ap_00, ↓ap_0s, ↓ap_s, ↓as_0, ↓as_s, ↓in_v, ↓in_b, ↓ib_fr, ↓ib_ow, ↓fl_v, ↓fr_fd, ↓fl_b, ↓fb_fr, ↓fb_ow, ↓get_look, ↓ln_i, ↓sf_fr, ↓sf_ow, ↓mk_r, ↓w_var, ↓w_view, ↓w_lift, ↓w_frz, ↓w_m1, ↓w_m2, ↓w_mV2, ↓w_m2V, ↓w_tst, ↓w_isN, ↓w_notN, ↓bv_bl, ↓w_andV, ↓w_orV, ↓nv_bl, ↓w_notV, ↓w_ch, ↓pt_i, ↓w_part, ↓w_sl, ↓w_slV, ↓w_cal, ↓w_lenV, ↓w_is, ↓w_isO, ↓w_put, ↓w_set, ↓w_move, ↓w_seq, ↓w_asg, ↓w_app, ↓w_setI, ↓w_items, ↓w_gB, ↓w_rB, ↓w_cl, ↓w_callA, ↓w_gStar, ↓w_fld, ↓get_d1, ↓w_mth, ↓w_mthS, ↓w_prp, ↓w_lenO, ↓w_own2, ↓w_ownB, ↓w_augO, ↓w_setF, ↓w_fn, ↓w_mk, ↓w_arg, ↓w_any, ↓w_kw, ↓selR, ↓selA, ↓sQ_0, ↓sQ_s, ↓st_nx, ↓st_ct, ↓st_bk, ↓st_rt, ↓w_lc, ↓g_ixt, ↓g_ixl, ↓g_ixs, ↓at_0, ↓at_1, ↓at_2, ↓at_3, ↓ix_0, ↓ix_1, ↓ix_2, ↓g_addi, ↓g_adds, ↓g_addt, ↓g_addl, ↓g_muli, ↓g_mult, ↓g_mull, ↓g_sub, ↓g_div, ↓g_mod, ↓g_pow, ↓g_bD, ↓g_lt, ↓g_le, ↓g_gt, ↓g_ge, ↓g_neg, ↓g_bl, ↓g_int, ↓g_lent, ↓g_lenl, ↓g_lens, ↓g_list, ↓g_lisl, ↓g_tupt, ↓g_tupl, ↓g_max, ↓g_min, ↓g_itt, ↓g_itl, ↓g_its, ↓g_slt, ↓g_sll, ↓g_sls, ↓g_rng1, ↓g_rng2, ↓g_enum, ↓g_nm, ↓g_tp, ↓g_gc, ↓g_gn, ↓g_isIntD_non, ↓g_isIntD_bl, ↓g_isIntD_int, ↓g_isIntD_str, ↓g_isIntD_tup, ↓g_isIntD_lst, ↓g_isBoolD_non, ↓g_isBoolD_bl, ↓g_isBoolD_int, ↓g_isBoolD_str, ↓g_isBoolD_tup, ↓g_isBoolD_lst, ↓g_isTupD_non, ↓g_isTupD_bl, ↓g_isTupD_int, ↓g_isTupD_str, ↓g_isTupD_tup, ↓g_isTupD_lst, ↓g_isStrD_non, ↓g_isStrD_bl, ↓g_isStrD_int, ↓g_isStrD_str, ↓g_isStrD_tup, ↓g_isStrD_lst, ↓g_own_non, ↓g_own_bl, ↓g_own_int, ↓g_own_str, ↓g_own_tup, ↓g_own_lst, ↓g_own_ins, ↓g_eqi, ↓g_eqs, ↓g_nei, ↓g_nes, ↓p_bnd, ↓p_ret, ↓p_none, ↓p_fr, ↓p_and, ↓p_or, ↓p_not, ↓p_ifE, ↓p_bl, ↓p_nil, ↓p_cons, ↓p_tup, ↓p_lst, ↓p_drop, ↓p_rt, ↓p_mif, ↓p_for, ↓p_gNil, ↓p_gV, ↓p_gApp, ↓p_rV, ↓p_if, cs_un, cs_fr, List.length_cons, List.length_nil, List.length_map, Nat.zero_add, insD_i, decide_eq_true_eq, Bool.not_eq_true', Bool.not_true, Bool.not_false, decide_eq_false_iff_not, true_and, and_true, ne_eq, not_false_eq_true, List.lookup_cons, Nat.reduceAdd, isN_non, isN_bl, isN_int, isN_str, isN_tup, isN_lst, ↓reduceIte]
  refine ⟨⟨by omega, by omega⟩, ⟨by omega, by omega⟩, by rw [rngD_len]; exact Nat.le_trans (by omega : (ds.length : Int).toNat ≤ 100) (by decide), ?_⟩
  refine LcK.inv (fun k acc a => acc = ds.take k ∧ a = [.fr (rowD Z t ds), .fr (.tup t), .fr (.tup ds), .un]) ⟨rfl, rfl⟩ (fun k d acc a hd hI => ?_) (fun acc a' hI => ?_)
  · obtain ⟨rfl, rfl⟩ := hI
    obtain ⟨hk, rfl⟩ := rngD_at hd
    obtain ⟨d, hd⟩ : ∃ d, ds[k]? = some d := ⟨ds[k]'(by omega), by simp [show k < ds.length by omega]⟩
    unfold rowD
    simp (decide := true) only [↓k_some, ↓k_no, ↓k_ite, ↓getK_0, ↓getK_s, ↓setK_0, ↓setK_s, ↓ff_0, ↓ff_s, ↓ff_o, ↓fo_l, ↓fo_i, ↓fk_fr, ↓fk_ow, ↓vk_fr, ↓vk_ow, ↓vw_fr, ↓vw_l, ↓mv_fr, ↓mv_ow, ↓sq_nx, ↓sq_bk, ↓sq_ct, ↓sq_rt, ↓fi_rt, ↓fi_nx, ↓ou_0, ↓ou_fr, ↓ou_ow, ↓ou_un, ↓ou_of, ↓ou_on, ↓un_00, ↓un_0s, ↓un_s, ↓rk_fr, ↓rk_un, ↓rk_ow, ↓ak_l, ↓lk_l, ↓si_l, ↓ls_0, ↓ls_s, ↓gb_fr, ↓gb_ow, ↓rb_fr, ↓rb_ow, ↓to_0, ↓to_v, ↓to_b, ↓to_map, ↓to_mapn, ↓tb_fr, ↓tb_ow, ↓bk_0, ↓bk_v, ↓bk_bi, ↓ba_0, ↓ba_s, ↓bk_mapf, ↓bk_mapn, ↓bb_fr, ↓bb_ow, ↓ui_un, ↓set_tag, ↓set_tagf, ↓df_0, ↓sp_0, ↓sp_n, ↓sp_s, ↓fs_0, ↓fs_s, ↓fs_map, ↓ct_0, ↓ct_fr, ↓ct_un, ↓ct_ow, ↓ap_00, ↓ap_0s, ↓ap_s, ↓as_0, ↓as_s, ↓in_v, ↓in_b, ↓ib_fr, ↓ib_ow, ↓fl_v, ↓fr_fd, ↓fl_b, ↓fb_fr, ↓fb_ow, ↓get_look, ↓ln_i, ↓sf_fr, ↓sf_ow, ↓mk_r, ↓w_var, ↓w_view, ↓w_lift, ↓w_frz, ↓w_m1, ↓w_m2, ↓w_mV2, ↓w_m2V, ↓w_tst, ↓w_isN, ↓w_notN, ↓bv_bl, ↓w_andV, ↓w_orV, ↓nv_bl, ↓w_notV, ↓w_ch, ↓pt_i, ↓w_part, ↓w_sl, ↓w_slV, ↓w_cal, ↓w_lenV, ↓w_is, ↓w_isO, ↓w_put, ↓w_set, ↓w_move, ↓w_seq, ↓w_asg, ↓w_app, ↓w_setI, ↓w_items, ↓w_gB, ↓w_rB, ↓w_cl, ↓w_callA, ↓w_gStar, ↓w_fld, ↓get_d1, ↓w_mth, ↓w_mthS, ↓w_prp, ↓w_lenO, ↓w_own2, ↓w_ownB, ↓w_augO, ↓w_setF, ↓w_fn, ↓w_mk, ↓w_arg, ↓w_any, ↓w_kw, ↓selR, ↓selA, ↓sQ_0, ↓sQ_s, ↓st_nx, ↓st_ct, ↓st_bk, ↓st_rt, ↓w_lc, ↓g_ixt, ↓g_ixl, ↓g_ixs, ↓at_0, ↓at_1, ↓at_2, ↓at_3, ↓ix_0, ↓ix_1, ↓ix_2, ↓g_addi, ↓g_adds, ↓g_addt, ↓g_addl, ↓g_muli, ↓g_mult, ↓g_mull, ↓g_sub, ↓g_div, ↓g_mod, ↓g_pow, ↓g_bD, ↓g_lt, ↓g_le, ↓g_gt, ↓g_ge, ↓g_neg, ↓g_bl, ↓g_int, ↓g_lent, ↓g_lenl, ↓g_lens, ↓g_list, ↓g_lisl, ↓g_tupt, ↓g_tupl, ↓g_max, ↓g_min, ↓g_itt, ↓g_itl, ↓g_its, ↓g_slt, ↓g_sll, ↓g_sls, ↓g_rng1, ↓g_rng2, ↓g_enum, ↓g_nm, ↓g_tp, ↓g_gc, ↓g_gn, ↓g_isIntD_non, ↓g_isIntD_bl, ↓g_isIntD_int, ↓g_isIntD_str, ↓g_isIntD_tup, ↓g_isIntD_lst, ↓g_isBoolD_non, ↓g_isBoolD_bl, ↓g_isBoolD_int, ↓g_isBoolD_str, ↓g_isBoolD_tup, ↓g_isBoolD_lst, ↓g_isTupD_non, ↓g_isTupD_bl, ↓g_isTupD_int, ↓g_isTupD_str, ↓g_isTupD_tup, ↓g_isTupD_lst, ↓g_isStrD_non, ↓g_isStrD_bl, ↓g_isStrD_int, ↓g_isStrD_str, ↓g_isStrD_tup, ↓g_isStrD_lst, ↓g_own_non, ↓g_own_bl, ↓g_own_int, ↓g_own_str, ↓g_own_tup, ↓g_own_lst, ↓g_own_ins, ↓g_eqi, ↓g_eqs, ↓g_nei, ↓g_nes, ↓p_bnd, ↓p_ret, ↓p_none, ↓p_fr, ↓p_and, ↓p_or, ↓p_not, ↓p_ifE, ↓p_bl, ↓p_nil, ↓p_cons, ↓p_tup, ↓p_lst, ↓p_drop, ↓p_rt, ↓p_mif, ↓p_for, ↓p_gNil, ↓p_gV, ↓p_gApp, ↓p_rV, ↓p_if, cs_un, cs_fr, List.length_cons, List.length_nil, List.length_map, Nat.zero_add, insD_i, decide_eq_true_eq, Bool.not_eq_true', Bool.not_true, Bool.not_false, decide_eq_false_iff_not, true_and, and_true, ne_eq, not_false_eq_true, List.lookup_cons, Nat.reduceAdd, isN_non, isN_bl, isN_int, isN_str, isN_tup, isN_lst, ↓reduceIte]
    refine ⟨by rfl, ?_⟩
    rw [show (0 : Int) + (k : Int) = (k : Int) by omega]
    refine item_spec hd ?_
    unfold rowD
    simp (decide := true) only [↓k_some, ↓k_no, ↓k_ite, ↓getK_0, ↓getK_s, ↓setK_0, ↓setK_s, ↓ff_0, ↓ff_s, ↓ff_o, ↓fo_l, ↓fo_i, ↓fk_fr, ↓fk_ow, ↓vk_fr, ↓vk_ow, ↓vw_fr, ↓vw_l, ↓mv_fr, ↓mv_ow, ↓sq_nx, ↓sq_bk, ↓sq_ct, ↓sq_rt, ↓fi_rt, ↓fi_nx, ↓ou_0, ↓ou_fr, ↓ou_ow, ↓ou_un, ↓ou_of, ↓ou_on, ↓un_00, ↓un_0s, ↓un_s, ↓rk_fr, ↓rk_un, ↓rk_ow, ↓ak_l, ↓lk_l, ↓si_l, ↓ls_0, ↓ls_s, ↓gb_fr, ↓gb_ow, ↓rb_fr, ↓rb_ow, ↓to_0, ↓to_v, ↓to_b, ↓to_map, ↓to_mapn, ↓tb_fr, ↓tb_ow, ↓bk_0, ↓bk_v, ↓bk_bi, ↓ba_0, ↓ba_s, ↓bk_mapf, ↓bk_mapn, ↓bb_fr, ↓bb_ow, ↓ui_un, ↓set_tag, ↓set_tagf, ↓df_0, ↓sp_0, ↓sp_n, ↓sp_s, ↓fs_0, ↓fs_s, ↓fs_map, ↓ct_0, ↓ct_fr, ↓ct_un, ↓ct_ow, ↓ap_00, ↓ap_0s, ↓ap_s, ↓as_0, ↓as_s, ↓in_v, ↓in_b, ↓ib_fr, ↓ib_ow, ↓fl_v, ↓fr_fd, ↓fl_b, ↓fb_fr, ↓fb_ow, ↓get_look, ↓ln_i, ↓sf_fr, ↓sf_ow, ↓mk_r, ↓w_var, ↓w_view, ↓w_lift, ↓w_frz, ↓w_m1, ↓w_m2, ↓w_mV2, ↓w_m2V, ↓w_tst, ↓w_isN, ↓w_notN, ↓bv_bl, ↓w_andV, ↓w_orV, ↓nv_bl, ↓w_notV, ↓w_ch, ↓pt_i, ↓w_part, ↓w_sl, ↓w_slV, ↓w_cal, ↓w_lenV, ↓w_is, ↓w_isO, ↓w_put, ↓w_set, ↓w_move, ↓w_seq, ↓w_asg, ↓w_app, ↓w_setI, ↓w_items, ↓w_gB, ↓w_rB, ↓w_cl, ↓w_callA, ↓w_gStar, ↓w_fld, ↓get_d1, ↓w_mth, ↓w_mthS, ↓w_prp, ↓w_lenO, ↓w_own2, ↓w_ownB, ↓w_augO, ↓w_setF, ↓w_fn, ↓w_mk, ↓w_arg, ↓w_any, ↓w_kw, ↓selR, ↓selA, ↓sQ_0, ↓sQ_s, ↓st_nx, ↓st_ct, ↓st_bk, ↓st_rt, ↓w_lc, ↓g_ixt, ↓g_ixl, ↓g_ixs, ↓at_0, ↓at_1, ↓at_2, ↓at_3, ↓ix_0, ↓ix_1, ↓ix_2, ↓g_addi, ↓g_adds, ↓g_addt, ↓g_addl, ↓g_muli, ↓g_mult, ↓g_mull, ↓g_sub, ↓g_div, ↓g_mod, ↓g_pow, ↓g_bD, ↓g_lt, ↓g_le, ↓g_gt, ↓g_ge, ↓g_neg, ↓g_bl, ↓g_int, ↓g_lent, ↓g_lenl, ↓g_lens, ↓g_list, ↓g_lisl, ↓g_tupt, ↓g_tupl, ↓g_max, ↓g_min, ↓g_itt, ↓g_itl, ↓g_its, ↓g_slt, ↓g_sll, ↓g_sls, ↓g_rng1, ↓g_rng2, ↓g_enum, ↓g_nm, ↓g_tp, ↓g_gc, ↓g_gn, ↓g_isIntD_non, ↓g_isIntD_bl, ↓g_isIntD_int, ↓g_isIntD_str, ↓g_isIntD_tup, ↓g_isIntD_lst, ↓g_isBoolD_non, ↓g_isBoolD_bl, ↓g_isBoolD_int, ↓g_isBoolD_str, ↓g_isBoolD_tup, ↓g_isBoolD_lst, ↓g_isTupD_non, ↓g_isTupD_bl, ↓g_isTupD_int, ↓g_isTupD_str, ↓g_isTupD_tup, ↓g_isTupD_lst, ↓g_isStrD_non, ↓g_isStrD_bl, ↓g_isStrD_int, ↓g_isStrD_str, ↓g_isStrD_tup, ↓g_isStrD_lst, ↓g_own_non, ↓g_own_bl, ↓g_own_int, ↓g_own_str, ↓g_own_tup, ↓g_own_lst, ↓g_own_ins, ↓g_eqi, ↓g_eqs, ↓g_nei, ↓g_nes, ↓p_bnd, ↓p_ret, ↓p_none, ↓p_fr, ↓p_and, ↓p_or, ↓p_not, ↓p_ifE, ↓p_bl, ↓p_nil, ↓p_cons, ↓p_tup, ↓p_lst, ↓p_drop, ↓p_rt, ↓p_mif, ↓p_for, ↓p_gNil, ↓p_gV, ↓p_gApp, ↓p_rV, ↓p_if, cs_un, cs_fr, List.length_cons, List.length_nil, List.length_map, Nat.zero_add, insD_i, decide_eq_true_eq, Bool.not_eq_true', Bool.not_true, Bool.not_false, decide_eq_false_iff_not, true_and, and_true, ne_eq, not_false_eq_true, List.lookup_cons, Nat.reduceAdd, isN_non, isN_bl, isN_int, isN_str, isN_tup, isN_lst, ↓reduceIte]
    rw [List.take_add_one, hd]
    rfl
  · obtain ⟨rfl, rfl⟩ := hI
    rw [rngD_len, Int.toNat_natCast, List.take_length]
    simp (decide := true) only [sh3, g_repr hs3, ↓k_some, ↓k_no, ↓k_ite, ↓getK_0, ↓getK_s, ↓setK_0, ↓setK_s, ↓ff_0, ↓ff_s, ↓ff_o, ↓fo_l, ↓fo_i, ↓fk_fr, ↓fk_ow, ↓vk_fr, ↓vk_ow, ↓vw_fr, ↓vw_l, ↓mv_fr, ↓mv_ow, ↓sq_nx, ↓sq_bk, ↓sq_ct, ↓sq_rt, ↓fi_rt, ↓fi_nx, ↓ou_0, ↓ou_fr, ↓ou_ow, ↓ou_un, ↓ou_of, ↓ou_on, ↓un_00, ↓un_0s, ↓un_s, ↓rk_fr, ↓rk_un, ↓rk_ow, ↓ak_l, ↓lk_l, ↓si_l, ↓ls_0, ↓ls_s, ↓gb_fr, ↓gb_ow, ↓rb_fr, ↓rb_ow, ↓to_0, ↓to_v, ↓to_b, ↓to_map, ↓to_mapn, ↓tb_fr, ↓tb_ow, ↓bk_0, ↓bk_v, ↓bk_bi, ↓ba_0, ↓ba_s, ↓bk_mapf, ↓bk_mapn, ↓bb_fr, ↓bb_ow, ↓ui_un, ↓set_tag, ↓set_tagf, ↓df_0, ↓sp_0, ↓sp_n, ↓sp_s, ↓fs_0, ↓fs_s, ↓fs_map, ↓ct_0, ↓ct_fr, ↓ct_un, ↓ct_ow, ↓ap_00, ↓ap_0s, ↓ap_s, ↓as_0, ↓as_s, ↓in_v, ↓in_b, ↓ib_fr, ↓ib_ow, ↓fl_v, ↓fr_fd, ↓fl_b, ↓fb_fr, ↓fb_ow, ↓get_look, ↓ln_i, ↓sf_fr, ↓sf_ow, ↓mk_r, ↓w_var, ↓w_view, ↓w_lift, ↓w_frz, ↓w_m1, ↓w_m2, ↓w_mV2, ↓w_m2V, ↓w_tst, ↓w_isN, ↓w_notN, ↓bv_bl, ↓w_andV, ↓w_orV, ↓nv_bl, ↓w_notV, ↓w_ch, ↓pt_i, ↓w_part, ↓w_sl, ↓w_slV, ↓w_cal, ↓w_lenV, ↓w_is, ↓w_isO, ↓w_put, ↓w_set, ↓w_move, ↓w_seq, ↓w_asg, ↓w_app, ↓w_setI, ↓w_items, ↓w_gB, ↓w_rB, ↓w_cl, ↓w_callA, ↓w_gStar, ↓w_fld, ↓get_d1, ↓w_mth, ↓w_mthS, ↓w_prp, ↓w_lenO, ↓w_own2, ↓w_ownB, ↓w_augO, ↓w_setF, ↓w_fn, ↓w_mk, ↓w_arg, ↓w_any, ↓w_kw, ↓selR, ↓selA, ↓sQ_0, ↓sQ_s, ↓st_nx, ↓st_ct, ↓st_bk, ↓st_rt, ↓w_lc, ↓g_ixt, ↓g_ixl, ↓g_ixs, ↓at_0, ↓at_1, ↓at_2, ↓at_3, ↓ix_0, ↓ix_1, ↓ix_2, ↓g_addi, ↓g_adds, ↓g_addt, ↓g_addl, ↓g_muli, ↓g_mult, ↓g_mull, ↓g_sub, ↓g_div, ↓g_mod, ↓g_pow, ↓g_bD, ↓g_lt, ↓g_le, ↓g_gt, ↓g_ge, ↓g_neg, ↓g_bl, ↓g_int, ↓g_lent, ↓g_lenl, ↓g_lens, ↓g_list, ↓g_lisl, ↓g_tupt, ↓g_tupl, ↓g_max, ↓g_min, ↓g_itt, ↓g_itl, ↓g_its, ↓g_slt, ↓g_sll, ↓g_sls, ↓g_rng1, ↓g_rng2, ↓g_enum, ↓g_nm, ↓g_tp, ↓g_gc, ↓g_gn, ↓g_isIntD_non, ↓g_isIntD_bl, ↓g_isIntD_int, ↓g_isIntD_str, ↓g_isIntD_tup, ↓g_isIntD_lst, ↓g_isBoolD_non, ↓g_isBoolD_bl, ↓g_isBoolD_int, ↓g_isBoolD_str, ↓g_isBoolD_tup, ↓g_isBoolD_lst, ↓g_isTupD_non, ↓g_isTupD_bl, ↓g_isTupD_int, ↓g_isTupD_str, ↓g_isTupD_tup, ↓g_isTupD_lst, ↓g_isStrD_non, ↓g_isStrD_bl, ↓g_isStrD_int, ↓g_isStrD_str, ↓g_isStrD_tup, ↓g_isStrD_lst, ↓g_own_non, ↓g_own_bl, ↓g_own_int, ↓g_own_str, ↓g_own_tup, ↓g_own_lst, ↓g_own_ins, ↓g_eqi, ↓g_eqs, ↓g_nei, ↓g_nes, ↓p_bnd, ↓p_ret, ↓p_none, ↓p_fr, ↓p_and, ↓p_or, ↓p_not, ↓p_ifE, ↓p_bl, ↓p_nil, ↓p_cons, ↓p_tup, ↓p_lst, ↓p_drop, ↓p_rt, ↓p_mif, ↓p_for, ↓p_gNil, ↓p_gV, ↓p_gApp, ↓p_rV, ↓p_if, cs_un, cs_fr, List.length_cons, List.length_nil, List.length_map, Nat.zero_add, insD_i, decide_eq_true_eq, Bool.not_eq_true', Bool.not_true, Bool.not_false, decide_eq_false_iff_not, true_and, and_true, ne_eq, not_false_eq_true, List.lookup_cons, Nat.reduceAdd, isN_non, isN_bl, isN_int, isN_str, isN_tup, isN_lst, ↓reduceIte]
    exact h
theorem add_spec {t ds es : List D} {s : Sl} {Q : Sl → List Sl → Prop} (ht : IsTree t) (hs : RS Z t ds s) (hg : Gates t.length ds) (hl : ds.length ≤ 40) (hg2 : Gates t.length es) (hl2 : es.length ≤ 40) (h : Q (.ow none (rowO Z t (ds ++ es))) [s, .fr (rowD Z t es)]) :
    PostF (f_Doors_add Z) [s, .fr (rowD Z t es)] Q := by
  have hh : Gates t.length (ds ++ es) := fun d hd => (List.mem_append.mp hd).elim (hg d) (hg2 d)
  unfold f_Doors_add b_Doors_add
  rcases hs with rfl | rfl
  all_goals
    simp (decide := true) only [rowD, rowO, List.append_nil, List.cons_append, List.nil_append, ↓k_some, ↓k_no, ↓k_ite, ↓getK_0, ↓getK_s, ↓setK_0, ↓setK_s, ↓ff_0, ↓ff_s, ↓ff_o, ↓fo_l, ↓fo_i, ↓fk_fr, ↓fk_ow, ↓vk_fr, ↓vk_ow, ↓vw_fr, ↓vw_l, ↓mv_fr, ↓mv_ow, ↓sq_nx, ↓sq_bk, ↓sq_ct, ↓sq_rt, ↓fi_rt, ↓fi_nx, ↓ou_0, ↓ou_fr, ↓ou_ow, ↓ou_un, ↓ou_of, ↓ou_on, ↓un_00, ↓un_0s, ↓un_s, ↓rk_fr, ↓rk_un, ↓rk_ow, ↓ak_l, ↓lk_l, ↓si_l, ↓ls_0, ↓ls_s, ↓gb_fr, ↓gb_ow, ↓rb_fr, ↓rb_ow, ↓to_0, ↓to_v, ↓to_b, ↓to_map, ↓to_mapn, ↓tb_fr, ↓tb_ow, ↓bk_0, ↓bk_v, ↓bk_bi, ↓ba_0, ↓ba_s, ↓bk_mapf, ↓bk_mapn, ↓bb_fr, ↓bb_ow, ↓ui_un, ↓set_tag, ↓set_tagf, ↓df_0, ↓sp_0, ↓sp_n, ↓sp_s, ↓fs_0, ↓fs_s, ↓fs_map, ↓ct_0, ↓ct_fr, ↓ct_un, ↓ct_ow, ↓ap_00, ↓ap_0s, ↓ap_s, ↓as_0, ↓as_s, ↓in_v, ↓in_b, ↓ib_fr, ↓ib_ow, ↓fl_v, ↓fr_fd, ↓fl_b, ↓fb_fr, ↓fb_ow, ↓get_look, ↓ln_i, ↓sf_fr, ↓sf_ow, ↓mk_r, ↓w_var, ↓w_view, ↓w_lift, ↓w_frz, ↓w_m1, ↓w_m2, ↓w_mV2, ↓w_m2V, ↓w_tst, ↓w_isN, ↓w_notN, ↓bv_bl, ↓w_andV, ↓w_orV, ↓nv_bl, ↓w_notV, ↓w_ch, ↓pt_i, ↓w_part, ↓w_sl, ↓w_slV, ↓w_cal, ↓w_lenV, ↓w_is, ↓w_isO, ↓w_put, ↓w_set, ↓w_move, ↓w_seq, ↓w_asg, ↓w_app, ↓w_setI, ↓w_items, ↓w_gB, ↓w_rB, ↓w_cl, ↓w_callA, ↓w_gStar, ↓w_fld, ↓get_d1, ↓w_mth, ↓w_mthS, ↓w_prp, ↓w_lenO, ↓w_own2, ↓w_ownB, ↓w_augO, ↓w_setF, ↓w_fn, ↓w_mk, ↓w_arg, ↓w_any, ↓w_kw, ↓selR, ↓selA, ↓sQ_0, ↓sQ_s, ↓st_nx, ↓st_ct, ↓st_bk, ↓st_rt, ↓w_lc, ↓g_ixt, ↓g_ixl, ↓g_ixs, ↓at_0, ↓at_1, ↓at_2, ↓at_3, ↓ix_0, ↓ix_1, ↓ix_2, ↓g_addi, ↓g_adds, ↓g_addt, ↓g_addl, ↓g_muli, ↓g_mult, ↓g_mull, ↓g_sub, ↓g_div, ↓g_mod, ↓g_pow, ↓g_bD, ↓g_lt, ↓g_le, ↓g_gt, ↓g_ge, ↓g_neg, ↓g_bl, ↓g_int, ↓g_lent, ↓g_lenl, ↓g_lens, ↓g_list, ↓g_lisl, ↓g_tupt, ↓g_tupl, ↓g_max, ↓g_min, ↓g_itt, ↓g_itl, ↓g_its, ↓g_slt, ↓g_sll, ↓g_sls, ↓g_rng1, ↓g_rng2, ↓g_enum, ↓g_nm, ↓g_tp, ↓g_gc, ↓g_gn, ↓g_isIntD_non, ↓g_isIntD_bl, ↓g_isIntD_int, ↓g_isIntD_str, ↓g_isIntD_tup, ↓g_isIntD_lst, ↓g_isBoolD_non, ↓g_isBoolD_bl, ↓g_isBoolD_int, ↓g_isBoolD_str, ↓g_isBoolD_tup, ↓g_isBoolD_lst, ↓g_isTupD_non, ↓g_isTupD_bl, ↓g_isTupD_int, ↓g_isTupD_str, ↓g_isTupD_tup, ↓g_isTupD_lst, ↓g_isStrD_non, ↓g_isStrD_bl, ↓g_isStrD_int, ↓g_isStrD_str, ↓g_isStrD_tup, ↓g_isStrD_lst, ↓g_own_non, ↓g_own_bl, ↓g_own_int, ↓g_own_str, ↓g_own_tup, ↓g_own_lst, ↓g_own_ins, ↓g_eqi, ↓g_eqs, ↓g_nei, ↓g_nes, ↓p_bnd, ↓p_ret, ↓p_none, ↓p_fr, ↓p_and, ↓p_or, ↓p_not, ↓p_ifE, ↓p_bl, ↓p_nil, ↓p_cons, ↓p_tup, ↓p_lst, ↓p_drop, ↓p_rt, ↓p_mif, ↓p_for, ↓p_gNil, ↓p_gV, ↓p_gApp, ↓p_rV, ↓p_if, cs_un, cs_fr, List.length_cons, List.length_nil, List.length_map, Nat.zero_add, insD_i, decide_eq_true_eq, Bool.not_eq_true', Bool.not_true, Bool.not_false, decide_eq_false_iff_not, true_and, and_true, ne_eq, not_false_eq_true, List.lookup_cons, Nat.reduceAdd, isN_non, isN_bl, isN_int, isN_str, isN_tup, isN_lst, ↓reduceIte]
    refine ⟨by rfl, like_spec ht (by first | exact .inl rfl | exact .inr rfl) ?_⟩
    simp (decide := true) only [rowD, rowO, List.append_nil, List.cons_append, List.nil_append, ↓k_some, ↓k_no, ↓k_ite, ↓getK_0, ↓getK_s, ↓setK_0, ↓setK_s, ↓ff_0, ↓ff_s, ↓ff_o, ↓fo_l, ↓fo_i, ↓fk_fr, ↓fk_ow, ↓vk_fr, ↓vk_ow, ↓vw_fr, ↓vw_l, ↓mv_fr, ↓mv_ow, ↓sq_nx, ↓sq_bk, ↓sq_ct, ↓sq_rt, ↓fi_rt, ↓fi_nx, ↓ou_0, ↓ou_fr, ↓ou_ow, ↓ou_un, ↓ou_of, ↓ou_on, ↓un_00, ↓un_0s, ↓un_s, ↓rk_fr, ↓rk_un, ↓rk_ow, ↓ak_l, ↓lk_l, ↓si_l, ↓ls_0, ↓ls_s, ↓gb_fr, ↓gb_ow, ↓rb_fr, ↓rb_ow, ↓to_0, ↓to_v, ↓to_b, ↓to_map, ↓to_mapn, ↓tb_fr, ↓tb_ow, ↓bk_0, ↓bk_v, ↓bk_bi, ↓ba_0, ↓ba_s, ↓bk_mapf, ↓bk_mapn, ↓bb_fr, ↓bb_ow, ↓ui_un, ↓set_tag, ↓set_tagf, ↓df_0, ↓sp_0, ↓sp_n, ↓sp_s, ↓fs_0, ↓fs_s, ↓fs_map, ↓ct_0, ↓ct_fr, ↓ct_un, ↓ct_ow, ↓ap_00, ↓ap_0s, ↓ap_s, ↓as_0, ↓as_s, ↓in_v, ↓in_b, ↓ib_fr, ↓ib_ow, ↓fl_v, ↓fr_fd, ↓fl_b, ↓fb_fr, ↓fb_ow, ↓get_look, ↓ln_i, ↓sf_fr, ↓sf_ow, ↓mk_r, ↓w_var, ↓w_view, ↓w_lift, ↓w_frz, ↓w_m1, ↓w_m2, ↓w_mV2, ↓w_m2V, ↓w_tst, ↓w_isN, ↓w_notN, ↓bv_bl, ↓w_andV, ↓w_orV, ↓nv_bl, ↓w_notV, ↓w_ch, ↓pt_i, ↓w_part, ↓w_sl, ↓w_slV, ↓w_cal, ↓w_lenV, ↓w_is, ↓w_isO, ↓w_put, ↓w_set, ↓w_move, ↓w_seq, ↓w_asg, ↓w_app, ↓w_setI, ↓w_items, ↓w_gB, ↓w_rB, ↓w_cl, ↓w_callA, ↓w_gStar, ↓w_fld, ↓get_d1, ↓w_mth, ↓w_mthS, ↓w_prp, ↓w_lenO, ↓w_own2, ↓w_ownB, ↓w_augO, ↓w_setF, ↓w_fn, ↓w_mk, ↓w_arg, ↓w_any, ↓w_kw, ↓selR, ↓selA, ↓sQ_0, ↓sQ_s, ↓st_nx, ↓st_ct, ↓st_bk, ↓st_rt, ↓w_lc, ↓g_ixt, ↓g_ixl, ↓g_ixs, ↓at_0, ↓at_1, ↓at_2, ↓at_3, ↓ix_0, ↓ix_1, ↓ix_2, ↓g_addi, ↓g_adds, ↓g_addt, ↓g_addl, ↓g_muli, ↓g_mult, ↓g_mull, ↓g_sub, ↓g_div, ↓g_mod, ↓g_pow, ↓g_bD, ↓g_lt, ↓g_le, ↓g_gt, ↓g_ge, ↓g_neg, ↓g_bl, ↓g_int, ↓g_lent, ↓g_lenl, ↓g_lens, ↓g_list, ↓g_lisl, ↓g_tupt, ↓g_tupl, ↓g_max, ↓g_min, ↓g_itt, ↓g_itl, ↓g_its, ↓g_slt, ↓g_sll, ↓g_sls, ↓g_rng1, ↓g_rng2, ↓g_enum, ↓g_nm, ↓g_tp, ↓g_gc, ↓g_gn, ↓g_isIntD_non, ↓g_isIntD_bl, ↓g_isIntD_int, ↓g_isIntD_str, ↓g_isIntD_tup, ↓g_isIntD_lst, ↓g_isBoolD_non, ↓g_isBoolD_bl, ↓g_isBoolD_int, ↓g_isBoolD_str, ↓g_isBoolD_tup, ↓g_isBoolD_lst, ↓g_isTupD_non, ↓g_isTupD_bl, ↓g_isTupD_int, ↓g_isTupD_str, ↓g_isTupD_tup, ↓g_isTupD_lst, ↓g_isStrD_non, ↓g_isStrD_bl, ↓g_isStrD_int, ↓g_isStrD_str, ↓g_isStrD_tup, ↓g_isStrD_lst, ↓g_own_non, ↓g_own_bl, ↓g_own_int, ↓g_own_str, ↓g_own_tup, ↓g_own_lst, ↓g_own_ins, ↓g_eqi, ↓g_eqs, ↓g_nei, ↓g_nes, ↓p_bnd, ↓p_ret, ↓p_none, ↓p_fr, ↓p_and, ↓p_or, ↓p_not, ↓p_ifE, ↓p_bl, ↓p_nil, ↓p_cons, ↓p_tup, ↓p_lst, ↓p_drop, ↓p_rt, ↓p_mif, ↓p_for, ↓p_gNil, ↓p_gV, ↓p_gApp, ↓p_rV, ↓p_if, cs_un, cs_fr, List.length_cons, List.length_nil, List.length_map, Nat.zero_add, insD_i, decide_eq_true_eq, Bool.not_eq_true', Bool.not_true, Bool.not_false, decide_eq_false_iff_not, true_and, and_true, ne_eq, not_false_eq_true, List.lookup_cons, Nat.reduceAdd, isN_non, isN_bl, isN_int, isN_str, isN_tup, isN_lst, ↓reduceIte]
    refine ⟨by simp, by simp, by simp, Nat.le_trans (by omega : ds.length + es.length ≤ 100) (by decide), of_spec (by simp; omega) ht hh ?_⟩
    simp (decide := true) only [rowD, rowO, List.append_nil, List.cons_append, List.nil_append, ↓k_some, ↓k_no, ↓k_ite, ↓getK_0, ↓getK_s, ↓setK_0, ↓setK_s, ↓ff_0, ↓ff_s, ↓ff_o, ↓fo_l, ↓fo_i, ↓fk_fr, ↓fk_ow, ↓vk_fr, ↓vk_ow, ↓vw_fr, ↓vw_l, ↓mv_fr, ↓mv_ow, ↓sq_nx, ↓sq_bk, ↓sq_ct, ↓sq_rt, ↓fi_rt, ↓fi_nx, ↓ou_0, ↓ou_fr, ↓ou_ow, ↓ou_un, ↓ou_of, ↓ou_on, ↓un_00, ↓un_0s, ↓un_s, ↓rk_fr, ↓rk_un, ↓rk_ow, ↓ak_l, ↓lk_l, ↓si_l, ↓ls_0, ↓ls_s, ↓gb_fr, ↓gb_ow, ↓rb_fr, ↓rb_ow, ↓to_0, ↓to_v, ↓to_b, ↓to_map, ↓to_mapn, ↓tb_fr, ↓tb_ow, ↓bk_0, ↓bk_v, ↓bk_bi, ↓ba_0, ↓ba_s, ↓bk_mapf, ↓bk_mapn, ↓bb_fr, ↓bb_ow, ↓ui_un, ↓set_tag, ↓set_tagf, ↓df_0, ↓sp_0, ↓sp_n, ↓sp_s, ↓fs_0, ↓fs_s, ↓fs_map, ↓ct_0, ↓ct_fr, ↓ct_un, ↓ct_ow, ↓ap_00, ↓ap_0s, ↓ap_s, ↓as_0, ↓as_s, ↓in_v, ↓in_b, ↓ib_fr, ↓ib_ow, ↓fl_v, ↓fr_fd, ↓fl_b, ↓fb_fr, ↓fb_ow, ↓get_look, ↓ln_i, ↓sf_fr, ↓sf_ow, ↓mk_r, ↓w_var, ↓w_view, ↓w_lift, ↓w_frz, ↓w_m1, ↓w_m2, ↓w_mV2, ↓w_m2V, ↓w_tst, ↓w_isN, ↓w_notN, ↓bv_bl, ↓w_andV, ↓w_orV, ↓nv_bl, ↓w_notV, ↓w_ch, ↓pt_i, ↓w_part, ↓w_sl, ↓w_slV, ↓w_cal, ↓w_lenV, ↓w_is, ↓w_isO, ↓w_put, ↓w_set, ↓w_move, ↓w_seq, ↓w_asg, ↓w_app, ↓w_setI, ↓w_items, ↓w_gB, ↓w_rB, ↓w_cl, ↓w_callA, ↓w_gStar, ↓w_fld, ↓get_d1, ↓w_mth, ↓w_mthS, ↓w_prp, ↓w_lenO, ↓w_own2, ↓w_ownB, ↓w_augO, ↓w_setF, ↓w_fn, ↓w_mk, ↓w_arg, ↓w_any, ↓w_kw, ↓selR, ↓selA, ↓sQ_0, ↓sQ_s, ↓st_nx, ↓st_ct, ↓st_bk, ↓st_rt, ↓w_lc, ↓g_ixt, ↓g_ixl, ↓g_ixs, ↓at_0, ↓at_1, ↓at_2, ↓at_3, ↓ix_0, ↓ix_1, ↓ix_2, ↓g_addi, ↓g_adds, ↓g_addt, ↓g_addl, ↓g_muli, ↓g_mult, ↓g_mull, ↓g_sub, ↓g_div, ↓g_mod, ↓g_pow, ↓g_bD, ↓g_lt, ↓g_le, ↓g_gt, ↓g_ge, ↓g_neg, ↓g_bl, ↓g_int, ↓g_lent, ↓g_lenl, ↓g_lens, ↓g_list, ↓g_lisl, ↓g_tupt, ↓g_tupl, ↓g_max, ↓g_min, ↓g_itt, ↓g_itl, ↓g_its, ↓g_slt, ↓g_sll, ↓g_sls, ↓g_rng1, ↓g_rng2, ↓g_enum, ↓g_nm, ↓g_tp, ↓g_gc, ↓g_gn, ↓g_isIntD_non, ↓g_isIntD_bl, ↓g_isIntD_int, ↓g_isIntD_str, ↓g_isIntD_tup, ↓g_isIntD_lst, ↓g_isBoolD_non, ↓g_isBoolD_bl, ↓g_isBoolD_int, ↓g_isBoolD_str, ↓g_isBoolD_tup, ↓g_isBoolD_lst, ↓g_isTupD_non, ↓g_isTupD_bl, ↓g_isTupD_int, ↓g_isTupD_str, ↓g_isTupD_tup, ↓g_isTupD_lst, ↓g_isStrD_non, ↓g_isStrD_bl, ↓g_isStrD_int, ↓g_isStrD_str, ↓g_isStrD_tup, ↓g_isStrD_lst, ↓g_own_non, ↓g_own_bl, ↓g_own_int, ↓g_own_str, ↓g_own_tup, ↓g_own_lst, ↓g_own_ins, ↓g_eqi, ↓g_eqs, ↓g_nei, ↓g_nes, ↓p_bnd, ↓p_ret, ↓p_none, ↓p_fr, ↓p_and, ↓p_or, ↓p_not, ↓p_ifE, ↓p_bl, ↓p_nil, ↓p_cons, ↓p_tup, ↓p_lst, ↓p_drop, ↓p_rt, ↓p_mif, ↓p_for, ↓p_gNil, ↓p_gV, ↓p_gApp, ↓p_rV, ↓p_if, cs_un, cs_fr, List.length_cons, List.length_nil, List.length_map, Nat.zero_add, insD_i, decide_eq_true_eq, Bool.not_eq_true', Bool.not_true, Bool.not_false, decide_eq_false_iff_not, true_and, and_true, ne_eq, not_false_eq_true, List.lookup_cons, Nat.reduceAdd, isN_non, isN_bl, isN_int, isN_str, isN_tup, isN_lst, ↓reduceIte]
    exact h
theorem behind_spec {t ds : List D} {s : Sl} {g : D} {Q : Sl → List Sl → Prop} (ht : IsTree t) (hs : RS Z t ds s) (hg : Gates t.length ds) (hl : ds.length ≤ 40) (hg2 : Gate t.length g) (h : Q (.ow none (rowO Z t (ds ++ [g]))) [s, .fr g]) :
    PostF (f_Doors_behind Z) [s, .fr g] Q := by
  have hh : Gates t.length (ds ++ [g]) := fun d hd => (List.mem_append.mp hd).elim (hg d) fun e => by rw [List.mem_singleton.mp e]; exact hg2
  unfold f_Doors_behind b_Doors_behind
  rcases hs with rfl | rfl
  all_goals
    simp (decide := true) only [rowD, rowO, List.append_nil, List.cons_append, List.nil_append, ↓k_some, ↓k_no, ↓k_ite, ↓getK_0, ↓getK_s, ↓setK_0, ↓setK_s, ↓ff_0, ↓ff_s, ↓ff_o, ↓fo_l, ↓fo_i, ↓fk_fr, ↓fk_ow, ↓vk_fr, ↓vk_ow, ↓vw_fr, ↓vw_l, ↓mv_fr, ↓mv_ow, ↓sq_nx, ↓sq_bk, ↓sq_ct, ↓sq_rt, ↓fi_rt, ↓fi_nx, ↓ou_0, ↓ou_fr, ↓ou_ow, ↓ou_un, ↓ou_of, ↓ou_on, ↓un_00, ↓un_0s, ↓un_s, ↓rk_fr, ↓rk_un, ↓rk_ow, ↓ak_l, ↓lk_l, ↓si_l, ↓ls_0, ↓ls_s, ↓gb_fr, ↓gb_ow, ↓rb_fr, ↓rb_ow, ↓to_0, ↓to_v, ↓to_b, ↓to_map, ↓to_mapn, ↓tb_fr, ↓tb_ow, ↓bk_0, ↓bk_v, ↓bk_bi, ↓ba_0, ↓ba_s, ↓bk_mapf, ↓bk_mapn, ↓bb_fr, ↓bb_ow, ↓ui_un, ↓set_tag, ↓set_tagf, ↓df_0, ↓sp_0, ↓sp_n, ↓sp_s, ↓fs_0, ↓fs_s, ↓fs_map, ↓ct_0, ↓ct_fr, ↓ct_un, ↓ct_ow, ↓ap_00, ↓ap_0s, ↓ap_s, ↓as_0, ↓as_s, ↓in_v, ↓in_b, ↓ib_fr, ↓ib_ow, ↓fl_v, ↓fr_fd, ↓fl_b, ↓fb_fr, ↓fb_ow, ↓get_look, ↓ln_i, ↓sf_fr, ↓sf_ow, ↓mk_r, ↓w_var, ↓w_view, ↓w_lift, ↓w_frz, ↓w_m1, ↓w_m2, ↓w_mV2, ↓w_m2V, ↓w_tst, ↓w_isN, ↓w_notN, ↓bv_bl, ↓w_andV, ↓w_orV, ↓nv_bl, ↓w_notV, ↓w_ch, ↓pt_i, ↓w_part, ↓w_sl, ↓w_slV, ↓w_cal, ↓w_lenV, ↓w_is, ↓w_isO, ↓w_put, ↓w_set, ↓w_move, ↓w_seq, ↓w_asg, ↓w_app, ↓w_setI, ↓w_items, ↓w_gB, ↓w_rB, ↓w_cl, ↓w_callA, ↓w_gStar, ↓w_fld, ↓get_d1, ↓w_mth, ↓w_mthS, ↓w_prp, ↓w_lenO, ↓w_own2, ↓w_ownB, ↓w_augO, ↓w_setF, ↓w_fn, ↓w_mk, ↓w_arg, ↓w_any, ↓w_kw, ↓selR, ↓selA, ↓sQ_0, ↓sQ_s, ↓st_nx, ↓st_ct, ↓st_bk, ↓st_rt, ↓w_lc, ↓g_ixt, ↓g_ixl, ↓g_ixs, ↓at_0, ↓at_1, ↓at_2, ↓at_3, ↓ix_0, ↓ix_1, ↓ix_2, ↓g_addi, ↓g_adds, ↓g_addt, ↓g_addl, ↓g_muli, ↓g_mult, ↓g_mull, ↓g_sub, ↓g_div, ↓g_mod, ↓g_pow, ↓g_bD, ↓g_lt, ↓g_le, ↓g_gt, ↓g_ge, ↓g_neg, ↓g_bl, ↓g_int, ↓g_lent, ↓g_lenl, ↓g_lens, ↓g_list, ↓g_lisl, ↓g_tupt, ↓g_tupl, ↓g_max, ↓g_min, ↓g_itt, ↓g_itl, ↓g_its, ↓g_slt, ↓g_sll, ↓g_sls, ↓g_rng1, ↓g_rng2, ↓g_enum, ↓g_nm, ↓g_tp, ↓g_gc, ↓g_gn, ↓g_isIntD_non, ↓g_isIntD_bl, ↓g_isIntD_int, ↓g_isIntD_str, ↓g_isIntD_tup, ↓g_isIntD_lst, ↓g_isBoolD_non, ↓g_isBoolD_bl, ↓g_isBoolD_int, ↓g_isBoolD_str, ↓g_isBoolD_tup, ↓g_isBoolD_lst, ↓g_isTupD_non, ↓g_isTupD_bl, ↓g_isTupD_int, ↓g_isTupD_str, ↓g_isTupD_tup, ↓g_isTupD_lst, ↓g_isStrD_non, ↓g_isStrD_bl, ↓g_isStrD_int, ↓g_isStrD_str, ↓g_isStrD_tup, ↓g_isStrD_lst, ↓g_own_non, ↓g_own_bl, ↓g_own_int, ↓g_own_str, ↓g_own_tup, ↓g_own_lst, ↓g_own_ins, ↓g_eqi, ↓g_eqs, ↓g_nei, ↓g_nes, ↓p_bnd, ↓p_ret, ↓p_none, ↓p_fr, ↓p_and, ↓p_or, ↓p_not, ↓p_ifE, ↓p_bl, ↓p_nil, ↓p_cons, ↓p_tup, ↓p_lst, ↓p_drop, ↓p_rt, ↓p_mif, ↓p_for, ↓p_gNil, ↓p_gV, ↓p_gApp, ↓p_rV, ↓p_if, cs_un, cs_fr, List.length_cons, List.length_nil, List.length_map, Nat.zero_add, insD_i, decide_eq_true_eq, Bool.not_eq_true', Bool.not_true, Bool.not_false, decide_eq_false_iff_not, true_and, and_true, ne_eq, not_false_eq_true, List.lookup_cons, Nat.reduceAdd, isN_non, isN_bl, isN_int, isN_str, isN_tup, isN_lst, ↓reduceIte]
    refine ⟨by simp, fits_spec ht hg2 ?_⟩
    simp (decide := true) only [rowD, rowO, List.append_nil, List.cons_append, List.nil_append, ↓k_some, ↓k_no, ↓k_ite, ↓getK_0, ↓getK_s, ↓setK_0, ↓setK_s, ↓ff_0, ↓ff_s, ↓ff_o, ↓fo_l, ↓fo_i, ↓fk_fr, ↓fk_ow, ↓vk_fr, ↓vk_ow, ↓vw_fr, ↓vw_l, ↓mv_fr, ↓mv_ow, ↓sq_nx, ↓sq_bk, ↓sq_ct, ↓sq_rt, ↓fi_rt, ↓fi_nx, ↓ou_0, ↓ou_fr, ↓ou_ow, ↓ou_un, ↓ou_of, ↓ou_on, ↓un_00, ↓un_0s, ↓un_s, ↓rk_fr, ↓rk_un, ↓rk_ow, ↓ak_l, ↓lk_l, ↓si_l, ↓ls_0, ↓ls_s, ↓gb_fr, ↓gb_ow, ↓rb_fr, ↓rb_ow, ↓to_0, ↓to_v, ↓to_b, ↓to_map, ↓to_mapn, ↓tb_fr, ↓tb_ow, ↓bk_0, ↓bk_v, ↓bk_bi, ↓ba_0, ↓ba_s, ↓bk_mapf, ↓bk_mapn, ↓bb_fr, ↓bb_ow, ↓ui_un, ↓set_tag, ↓set_tagf, ↓df_0, ↓sp_0, ↓sp_n, ↓sp_s, ↓fs_0, ↓fs_s, ↓fs_map, ↓ct_0, ↓ct_fr, ↓ct_un, ↓ct_ow, ↓ap_00, ↓ap_0s, ↓ap_s, ↓as_0, ↓as_s, ↓in_v, ↓in_b, ↓ib_fr, ↓ib_ow, ↓fl_v, ↓fr_fd, ↓fl_b, ↓fb_fr, ↓fb_ow, ↓get_look, ↓ln_i, ↓sf_fr, ↓sf_ow, ↓mk_r, ↓w_var, ↓w_view, ↓w_lift, ↓w_frz, ↓w_m1, ↓w_m2, ↓w_mV2, ↓w_m2V, ↓w_tst, ↓w_isN, ↓w_notN, ↓bv_bl, ↓w_andV, ↓w_orV, ↓nv_bl, ↓w_notV, ↓w_ch, ↓pt_i, ↓w_part, ↓w_sl, ↓w_slV, ↓w_cal, ↓w_lenV, ↓w_is, ↓w_isO, ↓w_put, ↓w_set, ↓w_move, ↓w_seq, ↓w_asg, ↓w_app, ↓w_setI, ↓w_items, ↓w_gB, ↓w_rB, ↓w_cl, ↓w_callA, ↓w_gStar, ↓w_fld, ↓get_d1, ↓w_mth, ↓w_mthS, ↓w_prp, ↓w_lenO, ↓w_own2, ↓w_ownB, ↓w_augO, ↓w_setF, ↓w_fn, ↓w_mk, ↓w_arg, ↓w_any, ↓w_kw, ↓selR, ↓selA, ↓sQ_0, ↓sQ_s, ↓st_nx, ↓st_ct, ↓st_bk, ↓st_rt, ↓w_lc, ↓g_ixt, ↓g_ixl, ↓g_ixs, ↓at_0, ↓at_1, ↓at_2, ↓at_3, ↓ix_0, ↓ix_1, ↓ix_2, ↓g_addi, ↓g_adds, ↓g_addt, ↓g_addl, ↓g_muli, ↓g_mult, ↓g_mull, ↓g_sub, ↓g_div, ↓g_mod, ↓g_pow, ↓g_bD, ↓g_lt, ↓g_le, ↓g_gt, ↓g_ge, ↓g_neg, ↓g_bl, ↓g_int, ↓g_lent, ↓g_lenl, ↓g_lens, ↓g_list, ↓g_lisl, ↓g_tupt, ↓g_tupl, ↓g_max, ↓g_min, ↓g_itt, ↓g_itl, ↓g_its, ↓g_slt, ↓g_sll, ↓g_sls, ↓g_rng1, ↓g_rng2, ↓g_enum, ↓g_nm, ↓g_tp, ↓g_gc, ↓g_gn, ↓g_isIntD_non, ↓g_isIntD_bl, ↓g_isIntD_int, ↓g_isIntD_str, ↓g_isIntD_tup, ↓g_isIntD_lst, ↓g_isBoolD_non, ↓g_isBoolD_bl, ↓g_isBoolD_int, ↓g_isBoolD_str, ↓g_isBoolD_tup, ↓g_isBoolD_lst, ↓g_isTupD_non, ↓g_isTupD_bl, ↓g_isTupD_int, ↓g_isTupD_str, ↓g_isTupD_tup, ↓g_isTupD_lst, ↓g_isStrD_non, ↓g_isStrD_bl, ↓g_isStrD_int, ↓g_isStrD_str, ↓g_isStrD_tup, ↓g_isStrD_lst, ↓g_own_non, ↓g_own_bl, ↓g_own_int, ↓g_own_str, ↓g_own_tup, ↓g_own_lst, ↓g_own_ins, ↓g_eqi, ↓g_eqs, ↓g_nei, ↓g_nes, ↓p_bnd, ↓p_ret, ↓p_none, ↓p_fr, ↓p_and, ↓p_or, ↓p_not, ↓p_ifE, ↓p_bl, ↓p_nil, ↓p_cons, ↓p_tup, ↓p_lst, ↓p_drop, ↓p_rt, ↓p_mif, ↓p_for, ↓p_gNil, ↓p_gV, ↓p_gApp, ↓p_rV, ↓p_if, cs_un, cs_fr, List.length_cons, List.length_nil, List.length_map, Nat.zero_add, insD_i, decide_eq_true_eq, Bool.not_eq_true', Bool.not_true, Bool.not_false, decide_eq_false_iff_not, true_and, and_true, ne_eq, not_false_eq_true, List.lookup_cons, Nat.reduceAdd, isN_non, isN_bl, isN_int, isN_str, isN_tup, isN_lst, ↓reduceIte]
    refine ⟨by simp, by simp, Nat.le_trans (by omega : ds.length + 1 ≤ 100) (by decide), of_spec (by simp; omega) ht hh ?_⟩
    simp (decide := true) only [rowD, rowO, List.append_nil, List.cons_append, List.nil_append, ↓k_some, ↓k_no, ↓k_ite, ↓getK_0, ↓getK_s, ↓setK_0, ↓setK_s, ↓ff_0, ↓ff_s, ↓ff_o, ↓fo_l, ↓fo_i, ↓fk_fr, ↓fk_ow, ↓vk_fr, ↓vk_ow, ↓vw_fr, ↓vw_l, ↓mv_fr, ↓mv_ow, ↓sq_nx, ↓sq_bk, ↓sq_ct, ↓sq_rt, ↓fi_rt, ↓fi_nx, ↓ou_0, ↓ou_fr, ↓ou_ow, ↓ou_un, ↓ou_of, ↓ou_on, ↓un_00, ↓un_0s, ↓un_s, ↓rk_fr, ↓rk_un, ↓rk_ow, ↓ak_l, ↓lk_l, ↓si_l, ↓ls_0, ↓ls_s, ↓gb_fr, ↓gb_ow, ↓rb_fr, ↓rb_ow, ↓to_0, ↓to_v, ↓to_b, ↓to_map, ↓to_mapn, ↓tb_fr, ↓tb_ow, ↓bk_0, ↓bk_v, ↓bk_bi, ↓ba_0, ↓ba_s, ↓bk_mapf, ↓bk_mapn, ↓bb_fr, ↓bb_ow, ↓ui_un, ↓set_tag, ↓set_tagf, ↓df_0, ↓sp_0, ↓sp_n, ↓sp_s, ↓fs_0, ↓fs_s, ↓fs_map, ↓ct_0, ↓ct_fr, ↓ct_un, ↓ct_ow, ↓ap_00, ↓ap_0s, ↓ap_s, ↓as_0, ↓as_s, ↓in_v, ↓in_b, ↓ib_fr, ↓ib_ow, ↓fl_v, ↓fr_fd, ↓fl_b, ↓fb_fr, ↓fb_ow, ↓get_look, ↓ln_i, ↓sf_fr, ↓sf_ow, ↓mk_r, ↓w_var, ↓w_view, ↓w_lift, ↓w_frz, ↓w_m1, ↓w_m2, ↓w_mV2, ↓w_m2V, ↓w_tst, ↓w_isN, ↓w_notN, ↓bv_bl, ↓w_andV, ↓w_orV, ↓nv_bl, ↓w_notV, ↓w_ch, ↓pt_i, ↓w_part, ↓w_sl, ↓w_slV, ↓w_cal, ↓w_lenV, ↓w_is, ↓w_isO, ↓w_put, ↓w_set, ↓w_move, ↓w_seq, ↓w_asg, ↓w_app, ↓w_setI, ↓w_items, ↓w_gB, ↓w_rB, ↓w_cl, ↓w_callA, ↓w_gStar, ↓w_fld, ↓get_d1, ↓w_mth, ↓w_mthS, ↓w_prp, ↓w_lenO, ↓w_own2, ↓w_ownB, ↓w_augO, ↓w_setF, ↓w_fn, ↓w_mk, ↓w_arg, ↓w_any, ↓w_kw, ↓selR, ↓selA, ↓sQ_0, ↓sQ_s, ↓st_nx, ↓st_ct, ↓st_bk, ↓st_rt, ↓w_lc, ↓g_ixt, ↓g_ixl, ↓g_ixs, ↓at_0, ↓at_1, ↓at_2, ↓at_3, ↓ix_0, ↓ix_1, ↓ix_2, ↓g_addi, ↓g_adds, ↓g_addt, ↓g_addl, ↓g_muli, ↓g_mult, ↓g_mull, ↓g_sub, ↓g_div, ↓g_mod, ↓g_pow, ↓g_bD, ↓g_lt, ↓g_le, ↓g_gt, ↓g_ge, ↓g_neg, ↓g_bl, ↓g_int, ↓g_lent, ↓g_lenl, ↓g_lens, ↓g_list, ↓g_lisl, ↓g_tupt, ↓g_tupl, ↓g_max, ↓g_min, ↓g_itt, ↓g_itl, ↓g_its, ↓g_slt, ↓g_sll, ↓g_sls, ↓g_rng1, ↓g_rng2, ↓g_enum, ↓g_nm, ↓g_tp, ↓g_gc, ↓g_gn, ↓g_isIntD_non, ↓g_isIntD_bl, ↓g_isIntD_int, ↓g_isIntD_str, ↓g_isIntD_tup, ↓g_isIntD_lst, ↓g_isBoolD_non, ↓g_isBoolD_bl, ↓g_isBoolD_int, ↓g_isBoolD_str, ↓g_isBoolD_tup, ↓g_isBoolD_lst, ↓g_isTupD_non, ↓g_isTupD_bl, ↓g_isTupD_int, ↓g_isTupD_str, ↓g_isTupD_tup, ↓g_isTupD_lst, ↓g_isStrD_non, ↓g_isStrD_bl, ↓g_isStrD_int, ↓g_isStrD_str, ↓g_isStrD_tup, ↓g_isStrD_lst, ↓g_own_non, ↓g_own_bl, ↓g_own_int, ↓g_own_str, ↓g_own_tup, ↓g_own_lst, ↓g_own_ins, ↓g_eqi, ↓g_eqs, ↓g_nei, ↓g_nes, ↓p_bnd, ↓p_ret, ↓p_none, ↓p_fr, ↓p_and, ↓p_or, ↓p_not, ↓p_ifE, ↓p_bl, ↓p_nil, ↓p_cons, ↓p_tup, ↓p_lst, ↓p_drop, ↓p_rt, ↓p_mif, ↓p_for, ↓p_gNil, ↓p_gV, ↓p_gApp, ↓p_rV, ↓p_if, cs_un, cs_fr, List.length_cons, List.length_nil, List.length_map, Nat.zero_add, insD_i, decide_eq_true_eq, Bool.not_eq_true', Bool.not_true, Bool.not_false, decide_eq_false_iff_not, true_and, and_true, ne_eq, not_false_eq_true, List.lookup_cons, Nat.reduceAdd, isN_non, isN_bl, isN_int, isN_str, isN_tup, isN_lst, ↓reduceIte]
    exact h
theorem spelled_spec {t ds : List D} {Q : Sl → List Sl → Prop} (ht : IsTree t) (hg : Gates t.length ds) (hl : ds.length < 4) (h : Q (.ow none (rowO Z t ds)) [.fr (.tup t), .fr (.tup ds)]) :
    PostF (f_l_spelled Z) [.fr (.tup t), .fr (.tup ds)] Q := by
  unfold f_l_spelled b_l_spelled
  match ds, hl, hg, h with
  | [], _, hg, h =>
    simp (decide := true) only [List.append_nil, List.cons_append, List.nil_append, ↓k_some, ↓k_no, ↓k_ite, ↓getK_0, ↓getK_s, ↓setK_0, ↓setK_s, ↓ff_0, ↓ff_s, ↓ff_o, ↓fo_l, ↓fo_i, ↓fk_fr, ↓fk_ow, ↓vk_fr, ↓vk_ow, ↓vw_fr, ↓vw_l, ↓mv_fr, ↓mv_ow, ↓sq_nx, ↓sq_bk, ↓sq_ct, ↓sq_rt, ↓fi_rt, ↓fi_nx, ↓ou_0, ↓ou_fr, ↓ou_ow, ↓ou_un, ↓ou_of, ↓ou_on, ↓un_00, ↓un_0s, ↓un_s, ↓rk_fr, ↓rk_un, ↓rk_ow, ↓ak_l, ↓lk_l, ↓si_l, ↓ls_0, ↓ls_s, ↓gb_fr, ↓gb_ow, ↓rb_fr, ↓rb_ow, ↓to_0, ↓to_v, ↓to_b, ↓to_map, ↓to_mapn, ↓tb_fr, ↓tb_ow, ↓bk_0, ↓bk_v, ↓bk_bi, ↓ba_0, ↓ba_s, ↓bk_mapf, ↓bk_mapn, ↓bb_fr, ↓bb_ow, ↓ui_un, ↓set_tag, ↓set_tagf, ↓df_0, ↓sp_0, ↓sp_n, ↓sp_s, ↓fs_0, ↓fs_s, ↓fs_map, ↓ct_0, ↓ct_fr, ↓ct_un, ↓ct_ow, ↓ap_00, ↓ap_0s, ↓ap_s, ↓as_0, ↓as_s, ↓in_v, ↓in_b, ↓ib_fr, ↓ib_ow, ↓fl_v, ↓fr_fd, ↓fl_b, ↓fb_fr, ↓fb_ow, ↓get_look, ↓ln_i, ↓sf_fr, ↓sf_ow, ↓mk_r, ↓w_var, ↓w_view, ↓w_lift, ↓w_frz, ↓w_m1, ↓w_m2, ↓w_mV2, ↓w_m2V, ↓w_tst, ↓w_isN, ↓w_notN, ↓bv_bl, ↓w_andV, ↓w_orV, ↓nv_bl, ↓w_notV, ↓w_ch, ↓pt_i, ↓w_part, ↓w_sl, ↓w_slV, ↓w_cal, ↓w_lenV, ↓w_is, ↓w_isO, ↓w_put, ↓w_set, ↓w_move, ↓w_seq, ↓w_asg, ↓w_app, ↓w_setI, ↓w_items, ↓w_gB, ↓w_rB, ↓w_cl, ↓w_callA, ↓w_gStar, ↓w_fld, ↓get_d1, ↓w_mth, ↓w_mthS, ↓w_prp, ↓w_lenO, ↓w_own2, ↓w_ownB, ↓w_augO, ↓w_setF, ↓w_fn, ↓w_mk, ↓w_arg, ↓w_any, ↓w_kw, ↓selR, ↓selA, ↓sQ_0, ↓sQ_s, ↓st_nx, ↓st_ct, ↓st_bk, ↓st_rt, ↓w_lc, ↓g_ixt, ↓g_ixl, ↓g_ixs, ↓at_0, ↓at_1, ↓at_2, ↓at_3, ↓ix_0, ↓ix_1, ↓ix_2, ↓g_addi, ↓g_adds, ↓g_addt, ↓g_addl, ↓g_muli, ↓g_mult, ↓g_mull, ↓g_sub, ↓g_div, ↓g_mod, ↓g_pow, ↓g_bD, ↓g_lt, ↓g_le, ↓g_gt, ↓g_ge, ↓g_neg, ↓g_bl, ↓g_int, ↓g_lent, ↓g_lenl, ↓g_lens, ↓g_list, ↓g_lisl, ↓g_tupt, ↓g_tupl, ↓g_max, ↓g_min, ↓g_itt, ↓g_itl, ↓g_its, ↓g_slt, ↓g_sll, ↓g_sls, ↓g_rng1, ↓g_rng2, ↓g_enum, ↓g_nm, ↓g_tp, ↓g_gc, ↓g_gn, ↓g_isIntD_non, ↓g_isIntD_bl, ↓g_isIntD_int, ↓g_isIntD_str, ↓g_isIntD_tup, ↓g_isIntD_lst, ↓g_isBoolD_non, ↓g_isBoolD_bl, ↓g_isBoolD_int, ↓g_isBoolD_str, ↓g_isBoolD_tup, ↓g_isBoolD_lst, ↓g_isTupD_non, ↓g_isTupD_bl, ↓g_isTupD_int, ↓g_isTupD_str, ↓g_isTupD_tup, ↓g_isTupD_lst, ↓g_isStrD_non, ↓g_isStrD_bl, ↓g_isStrD_int, ↓g_isStrD_str, ↓g_isStrD_tup, ↓g_isStrD_lst, ↓g_own_non, ↓g_own_bl, ↓g_own_int, ↓g_own_str, ↓g_own_tup, ↓g_own_lst, ↓g_own_ins, ↓g_eqi, ↓g_eqs, ↓g_nei, ↓g_nes, ↓p_bnd, ↓p_ret, ↓p_none, ↓p_fr, ↓p_and, ↓p_or, ↓p_not, ↓p_ifE, ↓p_bl, ↓p_nil, ↓p_cons, ↓p_tup, ↓p_lst, ↓p_drop, ↓p_rt, ↓p_mif, ↓p_for, ↓p_gNil, ↓p_gV, ↓p_gApp, ↓p_rV, ↓p_if, cs_un, cs_fr, List.length_cons, List.length_nil, List.length_map, Nat.zero_add, insD_i, decide_eq_true_eq, Bool.not_eq_true', Bool.not_true, Bool.not_false, decide_eq_false_iff_not, true_and, and_true, ne_eq, not_false_eq_true, List.lookup_cons, Nat.reduceAdd, isN_non, isN_bl, isN_int, isN_str, isN_tup, isN_lst, ↓reduceIte]
    refine init_spec ht hg ?_
    simp (decide := true) only [rowO, List.append_nil, List.cons_append, List.nil_append, ↓k_some, ↓k_no, ↓k_ite, ↓getK_0, ↓getK_s, ↓setK_0, ↓setK_s, ↓ff_0, ↓ff_s, ↓ff_o, ↓fo_l, ↓fo_i, ↓fk_fr, ↓fk_ow, ↓vk_fr, ↓vk_ow, ↓vw_fr, ↓vw_l, ↓mv_fr, ↓mv_ow, ↓sq_nx, ↓sq_bk, ↓sq_ct, ↓sq_rt, ↓fi_rt, ↓fi_nx, ↓ou_0, ↓ou_fr, ↓ou_ow, ↓ou_un, ↓ou_of, ↓ou_on, ↓un_00, ↓un_0s, ↓un_s, ↓rk_fr, ↓rk_un, ↓rk_ow, ↓ak_l, ↓lk_l, ↓si_l, ↓ls_0, ↓ls_s, ↓gb_fr, ↓gb_ow, ↓rb_fr, ↓rb_ow, ↓to_0, ↓to_v, ↓to_b, ↓to_map, ↓to_mapn, ↓tb_fr, ↓tb_ow, ↓bk_0, ↓bk_v, ↓bk_bi, ↓ba_0, ↓ba_s, ↓bk_mapf, ↓bk_mapn, ↓bb_fr, ↓bb_ow, ↓ui_un, ↓set_tag, ↓set_tagf, ↓df_0, ↓sp_0, ↓sp_n, ↓sp_s, ↓fs_0, ↓fs_s, ↓fs_map, ↓ct_0, ↓ct_fr, ↓ct_un, ↓ct_ow, ↓ap_00, ↓ap_0s, ↓ap_s, ↓as_0, ↓as_s, ↓in_v, ↓in_b, ↓ib_fr, ↓ib_ow, ↓fl_v, ↓fr_fd, ↓fl_b, ↓fb_fr, ↓fb_ow, ↓get_look, ↓ln_i, ↓sf_fr, ↓sf_ow, ↓mk_r, ↓w_var, ↓w_view, ↓w_lift, ↓w_frz, ↓w_m1, ↓w_m2, ↓w_mV2, ↓w_m2V, ↓w_tst, ↓w_isN, ↓w_notN, ↓bv_bl, ↓w_andV, ↓w_orV, ↓nv_bl, ↓w_notV, ↓w_ch, ↓pt_i, ↓w_part, ↓w_sl, ↓w_slV, ↓w_cal, ↓w_lenV, ↓w_is, ↓w_isO, ↓w_put, ↓w_set, ↓w_move, ↓w_seq, ↓w_asg, ↓w_app, ↓w_setI, ↓w_items, ↓w_gB, ↓w_rB, ↓w_cl, ↓w_callA, ↓w_gStar, ↓w_fld, ↓get_d1, ↓w_mth, ↓w_mthS, ↓w_prp, ↓w_lenO, ↓w_own2, ↓w_ownB, ↓w_augO, ↓w_setF, ↓w_fn, ↓w_mk, ↓w_arg, ↓w_any, ↓w_kw, ↓selR, ↓selA, ↓sQ_0, ↓sQ_s, ↓st_nx, ↓st_ct, ↓st_bk, ↓st_rt, ↓w_lc, ↓g_ixt, ↓g_ixl, ↓g_ixs, ↓at_0, ↓at_1, ↓at_2, ↓at_3, ↓ix_0, ↓ix_1, ↓ix_2, ↓g_addi, ↓g_adds, ↓g_addt, ↓g_addl, ↓g_muli, ↓g_mult, ↓g_mull, ↓g_sub, ↓g_div, ↓g_mod, ↓g_pow, ↓g_bD, ↓g_lt, ↓g_le, ↓g_gt, ↓g_ge, ↓g_neg, ↓g_bl, ↓g_int, ↓g_lent, ↓g_lenl, ↓g_lens, ↓g_list, ↓g_lisl, ↓g_tupt, ↓g_tupl, ↓g_max, ↓g_min, ↓g_itt, ↓g_itl, ↓g_its, ↓g_slt, ↓g_sll, ↓g_sls, ↓g_rng1, ↓g_rng2, ↓g_enum, ↓g_nm, ↓g_tp, ↓g_gc, ↓g_gn, ↓g_isIntD_non, ↓g_isIntD_bl, ↓g_isIntD_int, ↓g_isIntD_str, ↓g_isIntD_tup, ↓g_isIntD_lst, ↓g_isBoolD_non, ↓g_isBoolD_bl, ↓g_isBoolD_int, ↓g_isBoolD_str, ↓g_isBoolD_tup, ↓g_isBoolD_lst, ↓g_isTupD_non, ↓g_isTupD_bl, ↓g_isTupD_int, ↓g_isTupD_str, ↓g_isTupD_tup, ↓g_isTupD_lst, ↓g_isStrD_non, ↓g_isStrD_bl, ↓g_isStrD_int, ↓g_isStrD_str, ↓g_isStrD_tup, ↓g_isStrD_lst, ↓g_own_non, ↓g_own_bl, ↓g_own_int, ↓g_own_str, ↓g_own_tup, ↓g_own_lst, ↓g_own_ins, ↓g_eqi, ↓g_eqs, ↓g_nei, ↓g_nes, ↓p_bnd, ↓p_ret, ↓p_none, ↓p_fr, ↓p_and, ↓p_or, ↓p_not, ↓p_ifE, ↓p_bl, ↓p_nil, ↓p_cons, ↓p_tup, ↓p_lst, ↓p_drop, ↓p_rt, ↓p_mif, ↓p_for, ↓p_gNil, ↓p_gV, ↓p_gApp, ↓p_rV, ↓p_if, cs_un, cs_fr, List.length_cons, List.length_nil, List.length_map, Nat.zero_add, insD_i, decide_eq_true_eq, Bool.not_eq_true', Bool.not_true, Bool.not_false, decide_eq_false_iff_not, true_and, and_true, ne_eq, not_false_eq_true, List.lookup_cons, Nat.reduceAdd, isN_non, isN_bl, isN_int, isN_str, isN_tup, isN_lst, ↓reduceIte]
    exact h
  | [a], _, hg, h =>
    simp (decide := true) only [List.append_nil, List.cons_append, List.nil_append, ↓k_some, ↓k_no, ↓k_ite, ↓getK_0, ↓getK_s, ↓setK_0, ↓setK_s, ↓ff_0, ↓ff_s, ↓ff_o, ↓fo_l, ↓fo_i, ↓fk_fr, ↓fk_ow, ↓vk_fr, ↓vk_ow, ↓vw_fr, ↓vw_l, ↓mv_fr, ↓mv_ow, ↓sq_nx, ↓sq_bk, ↓sq_ct, ↓sq_rt, ↓fi_rt, ↓fi_nx, ↓ou_0, ↓ou_fr, ↓ou_ow, ↓ou_un, ↓ou_of, ↓ou_on, ↓un_00, ↓un_0s, ↓un_s, ↓rk_fr, ↓rk_un, ↓rk_ow, ↓ak_l, ↓lk_l, ↓si_l, ↓ls_0, ↓ls_s, ↓gb_fr, ↓gb_ow, ↓rb_fr, ↓rb_ow, ↓to_0, ↓to_v, ↓to_b, ↓to_map, ↓to_mapn, ↓tb_fr, ↓tb_ow, ↓bk_0, ↓bk_v, ↓bk_bi, ↓ba_0, ↓ba_s, ↓bk_mapf, ↓bk_mapn, ↓bb_fr, ↓bb_ow, ↓ui_un, ↓set_tag, ↓set_tagf, ↓df_0, ↓sp_0, ↓sp_n, ↓sp_s, ↓fs_0, ↓fs_s, ↓fs_map, ↓ct_0, ↓ct_fr, ↓ct_un, ↓ct_ow, ↓ap_00, ↓ap_0s, ↓ap_s, ↓as_0, ↓as_s, ↓in_v, ↓in_b, ↓ib_fr, ↓ib_ow, ↓fl_v, ↓fr_fd, ↓fl_b, ↓fb_fr, ↓fb_ow, ↓get_look, ↓ln_i, ↓sf_fr, ↓sf_ow, ↓mk_r, ↓w_var, ↓w_view, ↓w_lift, ↓w_frz, ↓w_m1, ↓w_m2, ↓w_mV2, ↓w_m2V, ↓w_tst, ↓w_isN, ↓w_notN, ↓bv_bl, ↓w_andV, ↓w_orV, ↓nv_bl, ↓w_notV, ↓w_ch, ↓pt_i, ↓w_part, ↓w_sl, ↓w_slV, ↓w_cal, ↓w_lenV, ↓w_is, ↓w_isO, ↓w_put, ↓w_set, ↓w_move, ↓w_seq, ↓w_asg, ↓w_app, ↓w_setI, ↓w_items, ↓w_gB, ↓w_rB, ↓w_cl, ↓w_callA, ↓w_gStar, ↓w_fld, ↓get_d1, ↓w_mth, ↓w_mthS, ↓w_prp, ↓w_lenO, ↓w_own2, ↓w_ownB, ↓w_augO, ↓w_setF, ↓w_fn, ↓w_mk, ↓w_arg, ↓w_any, ↓w_kw, ↓selR, ↓selA, ↓sQ_0, ↓sQ_s, ↓st_nx, ↓st_ct, ↓st_bk, ↓st_rt, ↓w_lc, ↓g_ixt, ↓g_ixl, ↓g_ixs, ↓at_0, ↓at_1, ↓at_2, ↓at_3, ↓ix_0, ↓ix_1, ↓ix_2, ↓g_addi, ↓g_adds, ↓g_addt, ↓g_addl, ↓g_muli, ↓g_mult, ↓g_mull, ↓g_sub, ↓g_div, ↓g_mod, ↓g_pow, ↓g_bD, ↓g_lt, ↓g_le, ↓g_gt, ↓g_ge, ↓g_neg, ↓g_bl, ↓g_int, ↓g_lent, ↓g_lenl, ↓g_lens, ↓g_list, ↓g_lisl, ↓g_tupt, ↓g_tupl, ↓g_max, ↓g_min, ↓g_itt, ↓g_itl, ↓g_its, ↓g_slt, ↓g_sll, ↓g_sls, ↓g_rng1, ↓g_rng2, ↓g_enum, ↓g_nm, ↓g_tp, ↓g_gc, ↓g_gn, ↓g_isIntD_non, ↓g_isIntD_bl, ↓g_isIntD_int, ↓g_isIntD_str, ↓g_isIntD_tup, ↓g_isIntD_lst, ↓g_isBoolD_non, ↓g_isBoolD_bl, ↓g_isBoolD_int, ↓g_isBoolD_str, ↓g_isBoolD_tup, ↓g_isBoolD_lst, ↓g_isTupD_non, ↓g_isTupD_bl, ↓g_isTupD_int, ↓g_isTupD_str, ↓g_isTupD_tup, ↓g_isTupD_lst, ↓g_isStrD_non, ↓g_isStrD_bl, ↓g_isStrD_int, ↓g_isStrD_str, ↓g_isStrD_tup, ↓g_isStrD_lst, ↓g_own_non, ↓g_own_bl, ↓g_own_int, ↓g_own_str, ↓g_own_tup, ↓g_own_lst, ↓g_own_ins, ↓g_eqi, ↓g_eqs, ↓g_nei, ↓g_nes, ↓p_bnd, ↓p_ret, ↓p_none, ↓p_fr, ↓p_and, ↓p_or, ↓p_not, ↓p_ifE, ↓p_bl, ↓p_nil, ↓p_cons, ↓p_tup, ↓p_lst, ↓p_drop, ↓p_rt, ↓p_mif, ↓p_for, ↓p_gNil, ↓p_gV, ↓p_gApp, ↓p_rV, ↓p_if, cs_un, cs_fr, List.length_cons, List.length_nil, List.length_map, Nat.zero_add, insD_i, decide_eq_true_eq, Bool.not_eq_true', Bool.not_true, Bool.not_false, decide_eq_false_iff_not, true_and, and_true, ne_eq, not_false_eq_true, List.lookup_cons, Nat.reduceAdd, isN_non, isN_bl, isN_int, isN_str, isN_tup, isN_lst, ↓reduceIte]
    refine init_spec ht hg ?_
    simp (decide := true) only [rowO, List.append_nil, List.cons_append, List.nil_append, ↓k_some, ↓k_no, ↓k_ite, ↓getK_0, ↓getK_s, ↓setK_0, ↓setK_s, ↓ff_0, ↓ff_s, ↓ff_o, ↓fo_l, ↓fo_i, ↓fk_fr, ↓fk_ow, ↓vk_fr, ↓vk_ow, ↓vw_fr, ↓vw_l, ↓mv_fr, ↓mv_ow, ↓sq_nx, ↓sq_bk, ↓sq_ct, ↓sq_rt, ↓fi_rt, ↓fi_nx, ↓ou_0, ↓ou_fr, ↓ou_ow, ↓ou_un, ↓ou_of, ↓ou_on, ↓un_00, ↓un_0s, ↓un_s, ↓rk_fr, ↓rk_un, ↓rk_ow, ↓ak_l, ↓lk_l, ↓si_l, ↓ls_0, ↓ls_s, ↓gb_fr, ↓gb_ow, ↓rb_fr, ↓rb_ow, ↓to_0, ↓to_v, ↓to_b, ↓to_map, ↓to_mapn, ↓tb_fr, ↓tb_ow, ↓bk_0, ↓bk_v, ↓bk_bi, ↓ba_0, ↓ba_s, ↓bk_mapf, ↓bk_mapn, ↓bb_fr, ↓bb_ow, ↓ui_un, ↓set_tag, ↓set_tagf, ↓df_0, ↓sp_0, ↓sp_n, ↓sp_s, ↓fs_0, ↓fs_s, ↓fs_map, ↓ct_0, ↓ct_fr, ↓ct_un, ↓ct_ow, ↓ap_00, ↓ap_0s, ↓ap_s, ↓as_0, ↓as_s, ↓in_v, ↓in_b, ↓ib_fr, ↓ib_ow, ↓fl_v, ↓fr_fd, ↓fl_b, ↓fb_fr, ↓fb_ow, ↓get_look, ↓ln_i, ↓sf_fr, ↓sf_ow, ↓mk_r, ↓w_var, ↓w_view, ↓w_lift, ↓w_frz, ↓w_m1, ↓w_m2, ↓w_mV2, ↓w_m2V, ↓w_tst, ↓w_isN, ↓w_notN, ↓bv_bl, ↓w_andV, ↓w_orV, ↓nv_bl, ↓w_notV, ↓w_ch, ↓pt_i, ↓w_part, ↓w_sl, ↓w_slV, ↓w_cal, ↓w_lenV, ↓w_is, ↓w_isO, ↓w_put, ↓w_set, ↓w_move, ↓w_seq, ↓w_asg, ↓w_app, ↓w_setI, ↓w_items, ↓w_gB, ↓w_rB, ↓w_cl, ↓w_callA, ↓w_gStar, ↓w_fld, ↓get_d1, ↓w_mth, ↓w_mthS, ↓w_prp, ↓w_lenO, ↓w_own2, ↓w_ownB, ↓w_augO, ↓w_setF, ↓w_fn, ↓w_mk, ↓w_arg, ↓w_any, ↓w_kw, ↓selR, ↓selA, ↓sQ_0, ↓sQ_s, ↓st_nx, ↓st_ct, ↓st_bk, ↓st_rt, ↓w_lc, ↓g_ixt, ↓g_ixl, ↓g_ixs, ↓at_0, ↓at_1, ↓at_2, ↓at_3, ↓ix_0, ↓ix_1, ↓ix_2, ↓g_addi, ↓g_adds, ↓g_addt, ↓g_addl, ↓g_muli, ↓g_mult, ↓g_mull, ↓g_sub, ↓g_div, ↓g_mod, ↓g_pow, ↓g_bD, ↓g_lt, ↓g_le, ↓g_gt, ↓g_ge, ↓g_neg, ↓g_bl, ↓g_int, ↓g_lent, ↓g_lenl, ↓g_lens, ↓g_list, ↓g_lisl, ↓g_tupt, ↓g_tupl, ↓g_max, ↓g_min, ↓g_itt, ↓g_itl, ↓g_its, ↓g_slt, ↓g_sll, ↓g_sls, ↓g_rng1, ↓g_rng2, ↓g_enum, ↓g_nm, ↓g_tp, ↓g_gc, ↓g_gn, ↓g_isIntD_non, ↓g_isIntD_bl, ↓g_isIntD_int, ↓g_isIntD_str, ↓g_isIntD_tup, ↓g_isIntD_lst, ↓g_isBoolD_non, ↓g_isBoolD_bl, ↓g_isBoolD_int, ↓g_isBoolD_str, ↓g_isBoolD_tup, ↓g_isBoolD_lst, ↓g_isTupD_non, ↓g_isTupD_bl, ↓g_isTupD_int, ↓g_isTupD_str, ↓g_isTupD_tup, ↓g_isTupD_lst, ↓g_isStrD_non, ↓g_isStrD_bl, ↓g_isStrD_int, ↓g_isStrD_str, ↓g_isStrD_tup, ↓g_isStrD_lst, ↓g_own_non, ↓g_own_bl, ↓g_own_int, ↓g_own_str, ↓g_own_tup, ↓g_own_lst, ↓g_own_ins, ↓g_eqi, ↓g_eqs, ↓g_nei, ↓g_nes, ↓p_bnd, ↓p_ret, ↓p_none, ↓p_fr, ↓p_and, ↓p_or, ↓p_not, ↓p_ifE, ↓p_bl, ↓p_nil, ↓p_cons, ↓p_tup, ↓p_lst, ↓p_drop, ↓p_rt, ↓p_mif, ↓p_for, ↓p_gNil, ↓p_gV, ↓p_gApp, ↓p_rV, ↓p_if, cs_un, cs_fr, List.length_cons, List.length_nil, List.length_map, Nat.zero_add, insD_i, decide_eq_true_eq, Bool.not_eq_true', Bool.not_true, Bool.not_false, decide_eq_false_iff_not, true_and, and_true, ne_eq, not_false_eq_true, List.lookup_cons, Nat.reduceAdd, isN_non, isN_bl, isN_int, isN_str, isN_tup, isN_lst, ↓reduceIte]
    exact h
  | [a, b], _, hg, h =>
    simp (decide := true) only [List.append_nil, List.cons_append, List.nil_append, ↓k_some, ↓k_no, ↓k_ite, ↓getK_0, ↓getK_s, ↓setK_0, ↓setK_s, ↓ff_0, ↓ff_s, ↓ff_o, ↓fo_l, ↓fo_i, ↓fk_fr, ↓fk_ow, ↓vk_fr, ↓vk_ow, ↓vw_fr, ↓vw_l, ↓mv_fr, ↓mv_ow, ↓sq_nx, ↓sq_bk, ↓sq_ct, ↓sq_rt, ↓fi_rt, ↓fi_nx, ↓ou_0, ↓ou_fr, ↓ou_ow, ↓ou_un, ↓ou_of, ↓ou_on, ↓un_00, ↓un_0s, ↓un_s, ↓rk_fr, ↓rk_un, ↓rk_ow, ↓ak_l, ↓lk_l, ↓si_l, ↓ls_0, ↓ls_s, ↓gb_fr, ↓gb_ow, ↓rb_fr, ↓rb_ow, ↓to_0, ↓to_v, ↓to_b, ↓to_map, ↓to_mapn, ↓tb_fr, ↓tb_ow, ↓bk_0, ↓bk_v, ↓bk_bi, ↓ba_0, ↓ba_s, ↓bk_mapf, ↓bk_mapn, ↓bb_fr, ↓bb_ow, ↓ui_un, ↓set_tag, ↓set_tagf, ↓df_0, ↓sp_0, ↓sp_n, ↓sp_s, ↓fs_0, ↓fs_s, ↓fs_map, ↓ct_0, ↓ct_fr, ↓ct_un, ↓ct_ow, ↓ap_00, ↓ap_0s, ↓ap_s, ↓as_0, ↓as_s, ↓in_v, ↓in_b, ↓ib_fr, ↓ib_ow, ↓fl_v, ↓fr_fd, ↓fl_b, ↓fb_fr, ↓fb_ow, ↓get_look, ↓ln_i, ↓sf_fr, ↓sf_ow, ↓mk_r, ↓w_var, ↓w_view, ↓w_lift, ↓w_frz, ↓w_m1, ↓w_m2, ↓w_mV2, ↓w_m2V, ↓w_tst, ↓w_isN, ↓w_notN, ↓bv_bl, ↓w_andV, ↓w_orV, ↓nv_bl, ↓w_notV, ↓w_ch, ↓pt_i, ↓w_part, ↓w_sl, ↓w_slV, ↓w_cal, ↓w_lenV, ↓w_is, ↓w_isO, ↓w_put, ↓w_set, ↓w_move, ↓w_seq, ↓w_asg, ↓w_app, ↓w_setI, ↓w_items, ↓w_gB, ↓w_rB, ↓w_cl, ↓w_callA, ↓w_gStar, ↓w_fld, ↓get_d1, ↓w_mth, ↓w_mthS, ↓w_prp, ↓w_lenO, ↓w_own2, ↓w_ownB, ↓w_augO, ↓w_setF, ↓w_fn, ↓w_mk, ↓w_arg, ↓w_any, ↓w_kw, ↓selR, ↓selA, ↓sQ_0, ↓sQ_s, ↓st_nx, ↓st_ct, ↓st_bk, ↓st_rt, ↓w_lc, ↓g_ixt, ↓g_ixl, ↓g_ixs, ↓at_0, ↓at_1, ↓at_2, ↓at_3, ↓ix_0, ↓ix_1, ↓ix_2, ↓g_addi, ↓g_adds, ↓g_addt, ↓g_addl, ↓g_muli, ↓g_mult, ↓g_mull, ↓g_sub, ↓g_div, ↓g_mod, ↓g_pow, ↓g_bD, ↓g_lt, ↓g_le, ↓g_gt, ↓g_ge, ↓g_neg, ↓g_bl, ↓g_int, ↓g_lent, ↓g_lenl, ↓g_lens, ↓g_list, ↓g_lisl, ↓g_tupt, ↓g_tupl, ↓g_max, ↓g_min, ↓g_itt, ↓g_itl, ↓g_its, ↓g_slt, ↓g_sll, ↓g_sls, ↓g_rng1, ↓g_rng2, ↓g_enum, ↓g_nm, ↓g_tp, ↓g_gc, ↓g_gn, ↓g_isIntD_non, ↓g_isIntD_bl, ↓g_isIntD_int, ↓g_isIntD_str, ↓g_isIntD_tup, ↓g_isIntD_lst, ↓g_isBoolD_non, ↓g_isBoolD_bl, ↓g_isBoolD_int, ↓g_isBoolD_str, ↓g_isBoolD_tup, ↓g_isBoolD_lst, ↓g_isTupD_non, ↓g_isTupD_bl, ↓g_isTupD_int, ↓g_isTupD_str, ↓g_isTupD_tup, ↓g_isTupD_lst, ↓g_isStrD_non, ↓g_isStrD_bl, ↓g_isStrD_int, ↓g_isStrD_str, ↓g_isStrD_tup, ↓g_isStrD_lst, ↓g_own_non, ↓g_own_bl, ↓g_own_int, ↓g_own_str, ↓g_own_tup, ↓g_own_lst, ↓g_own_ins, ↓g_eqi, ↓g_eqs, ↓g_nei, ↓g_nes, ↓p_bnd, ↓p_ret, ↓p_none, ↓p_fr, ↓p_and, ↓p_or, ↓p_not, ↓p_ifE, ↓p_bl, ↓p_nil, ↓p_cons, ↓p_tup, ↓p_lst, ↓p_drop, ↓p_rt, ↓p_mif, ↓p_for, ↓p_gNil, ↓p_gV, ↓p_gApp, ↓p_rV, ↓p_if, cs_un, cs_fr, List.length_cons, List.length_nil, List.length_map, Nat.zero_add, insD_i, decide_eq_true_eq, Bool.not_eq_true', Bool.not_true, Bool.not_false, decide_eq_false_iff_not, true_and, and_true, ne_eq, not_false_eq_true, List.lookup_cons, Nat.reduceAdd, isN_non, isN_bl, isN_int, isN_str, isN_tup, isN_lst, ↓reduceIte]
    refine init_spec ht hg ?_
    simp (decide := true) only [rowO, List.append_nil, List.cons_append, List.nil_append, ↓k_some, ↓k_no, ↓k_ite, ↓getK_0, ↓getK_s, ↓setK_0, ↓setK_s, ↓ff_0, ↓ff_s, ↓ff_o, ↓fo_l, ↓fo_i, ↓fk_fr, ↓fk_ow, ↓vk_fr, ↓vk_ow, ↓vw_fr, ↓vw_l, ↓mv_fr, ↓mv_ow, ↓sq_nx, ↓sq_bk, ↓sq_ct, ↓sq_rt, ↓fi_rt, ↓fi_nx, ↓ou_0, ↓ou_fr, ↓ou_ow, ↓ou_un, ↓ou_of, ↓ou_on, ↓un_00, ↓un_0s, ↓un_s, ↓rk_fr, ↓rk_un, ↓rk_ow, ↓ak_l, ↓lk_l, ↓si_l, ↓ls_0, ↓ls_s, ↓gb_fr, ↓gb_ow, ↓rb_fr, ↓rb_ow, ↓to_0, ↓to_v, ↓to_b, ↓to_map, ↓to_mapn, ↓tb_fr, ↓tb_ow, ↓bk_0, ↓bk_v, ↓bk_bi, ↓ba_0, ↓ba_s, ↓bk_mapf, ↓bk_mapn, ↓bb_fr, ↓bb_ow, ↓ui_un, ↓set_tag, ↓set_tagf, ↓df_0, ↓sp_0, ↓sp_n, ↓sp_s, ↓fs_0, ↓fs_s, ↓fs_map, ↓ct_0, ↓ct_fr, ↓ct_un, ↓ct_ow, ↓ap_00, ↓ap_0s, ↓ap_s, ↓as_0, ↓as_s, ↓in_v, ↓in_b, ↓ib_fr, ↓ib_ow, ↓fl_v, ↓fr_fd, ↓fl_b, ↓fb_fr, ↓fb_ow, ↓get_look, ↓ln_i, ↓sf_fr, ↓sf_ow, ↓mk_r, ↓w_var, ↓w_view, ↓w_lift, ↓w_frz, ↓w_m1, ↓w_m2, ↓w_mV2, ↓w_m2V, ↓w_tst, ↓w_isN, ↓w_notN, ↓bv_bl, ↓w_andV, ↓w_orV, ↓nv_bl, ↓w_notV, ↓w_ch, ↓pt_i, ↓w_part, ↓w_sl, ↓w_slV, ↓w_cal, ↓w_lenV, ↓w_is, ↓w_isO, ↓w_put, ↓w_set, ↓w_move, ↓w_seq, ↓w_asg, ↓w_app, ↓w_setI, ↓w_items, ↓w_gB, ↓w_rB, ↓w_cl, ↓w_callA, ↓w_gStar, ↓w_fld, ↓get_d1, ↓w_mth, ↓w_mthS, ↓w_prp, ↓w_lenO, ↓w_own2, ↓w_ownB, ↓w_augO, ↓w_setF, ↓w_fn, ↓w_mk, ↓w_arg, ↓w_any, ↓w_kw, ↓selR, ↓selA, ↓sQ_0, ↓sQ_s, ↓st_nx, ↓st_ct, ↓st_bk, ↓st_rt, ↓w_lc, ↓g_ixt, ↓g_ixl, ↓g_ixs, ↓at_0, ↓at_1, ↓at_2, ↓at_3, ↓ix_0, ↓ix_1, ↓ix_2, ↓g_addi, ↓g_adds, ↓g_addt, ↓g_addl, ↓g_muli, ↓g_mult, ↓g_mull, ↓g_sub, ↓g_div, ↓g_mod, ↓g_pow, ↓g_bD, ↓g_lt, ↓g_le, ↓g_gt, ↓g_ge, ↓g_neg, ↓g_bl, ↓g_int, ↓g_lent, ↓g_lenl, ↓g_lens, ↓g_list, ↓g_lisl, ↓g_tupt, ↓g_tupl, ↓g_max, ↓g_min, ↓g_itt, ↓g_itl, ↓g_its, ↓g_slt, ↓g_sll, ↓g_sls, ↓g_rng1, ↓g_rng2, ↓g_enum, ↓g_nm, ↓g_tp, ↓g_gc, ↓g_gn, ↓g_isIntD_non, ↓g_isIntD_bl, ↓g_isIntD_int, ↓g_isIntD_str, ↓g_isIntD_tup, ↓g_isIntD_lst, ↓g_isBoolD_non, ↓g_isBoolD_bl, ↓g_isBoolD_int, ↓g_isBoolD_str, ↓g_isBoolD_tup, ↓g_isBoolD_lst, ↓g_isTupD_non, ↓g_isTupD_bl, ↓g_isTupD_int, ↓g_isTupD_str, ↓g_isTupD_tup, ↓g_isTupD_lst, ↓g_isStrD_non, ↓g_isStrD_bl, ↓g_isStrD_int, ↓g_isStrD_str, ↓g_isStrD_tup, ↓g_isStrD_lst, ↓g_own_non, ↓g_own_bl, ↓g_own_int, ↓g_own_str, ↓g_own_tup, ↓g_own_lst, ↓g_own_ins, ↓g_eqi, ↓g_eqs, ↓g_nei, ↓g_nes, ↓p_bnd, ↓p_ret, ↓p_none, ↓p_fr, ↓p_and, ↓p_or, ↓p_not, ↓p_ifE, ↓p_bl, ↓p_nil, ↓p_cons, ↓p_tup, ↓p_lst, ↓p_drop, ↓p_rt, ↓p_mif, ↓p_for, ↓p_gNil, ↓p_gV, ↓p_gApp, ↓p_rV, ↓p_if, cs_un, cs_fr, List.length_cons, List.length_nil, List.length_map, Nat.zero_add, insD_i, decide_eq_true_eq, Bool.not_eq_true', Bool.not_true, Bool.not_false, decide_eq_false_iff_not, true_and, and_true, ne_eq, not_false_eq_true, List.lookup_cons, Nat.reduceAdd, isN_non, isN_bl, isN_int, isN_str, isN_tup, isN_lst, ↓reduceIte]
    exact h
  | [a, b, c], _, hg, h =>
    simp (decide := true) only [List.append_nil, List.cons_append, List.nil_append, ↓k_some, ↓k_no, ↓k_ite, ↓getK_0, ↓getK_s, ↓setK_0, ↓setK_s, ↓ff_0, ↓ff_s, ↓ff_o, ↓fo_l, ↓fo_i, ↓fk_fr, ↓fk_ow, ↓vk_fr, ↓vk_ow, ↓vw_fr, ↓vw_l, ↓mv_fr, ↓mv_ow, ↓sq_nx, ↓sq_bk, ↓sq_ct, ↓sq_rt, ↓fi_rt, ↓fi_nx, ↓ou_0, ↓ou_fr, ↓ou_ow, ↓ou_un, ↓ou_of, ↓ou_on, ↓un_00, ↓un_0s, ↓un_s, ↓rk_fr, ↓rk_un, ↓rk_ow, ↓ak_l, ↓lk_l, ↓si_l, ↓ls_0, ↓ls_s, ↓gb_fr, ↓gb_ow, ↓rb_fr, ↓rb_ow, ↓to_0, ↓to_v, ↓to_b, ↓to_map, ↓to_mapn, ↓tb_fr, ↓tb_ow, ↓bk_0, ↓bk_v, ↓bk_bi, ↓ba_0, ↓ba_s, ↓bk_mapf, ↓bk_mapn, ↓bb_fr, ↓bb_ow, ↓ui_un, ↓set_tag, ↓set_tagf, ↓df_0, ↓sp_0, ↓sp_n, ↓sp_s, ↓fs_0, ↓fs_s, ↓fs_map, ↓ct_0, ↓ct_fr, ↓ct_un, ↓ct_ow, ↓ap_00, ↓ap_0s, ↓ap_s, ↓as_0, ↓as_s, ↓in_v, ↓in_b, ↓ib_fr, ↓ib_ow, ↓fl_v, ↓fr_fd, ↓fl_b, ↓fb_fr, ↓fb_ow, ↓get_look, ↓ln_i, ↓sf_fr, ↓sf_ow, ↓mk_r, ↓w_var, ↓w_view, ↓w_lift, ↓w_frz, ↓w_m1, ↓w_m2, ↓w_mV2, ↓w_m2V, ↓w_tst, ↓w_isN, ↓w_notN, ↓bv_bl, ↓w_andV, ↓w_orV, ↓nv_bl, ↓w_notV, ↓w_ch, ↓pt_i, ↓w_part, ↓w_sl, ↓w_slV, ↓w_cal, ↓w_lenV, ↓w_is, ↓w_isO, ↓w_put, ↓w_set, ↓w_move, ↓w_seq, ↓w_asg, ↓w_app, ↓w_setI, ↓w_items, ↓w_gB, ↓w_rB, ↓w_cl, ↓w_callA, ↓w_gStar, ↓w_fld, ↓get_d1, ↓w_mth, ↓w_mthS, ↓w_prp, ↓w_lenO, ↓w_own2, ↓w_ownB, ↓w_augO, ↓w_setF, ↓w_fn, ↓w_mk, ↓w_arg, ↓w_any, ↓w_kw, ↓selR, ↓selA, ↓sQ_0, ↓sQ_s, ↓st_nx, ↓st_ct, ↓st_bk, ↓st_rt, ↓w_lc, ↓g_ixt, ↓g_ixl, ↓g_ixs, ↓at_0, ↓at_1, ↓at_2, ↓at_3, ↓ix_0, ↓ix_1, ↓ix_2, ↓g_addi, ↓g_adds, ↓g_addt, ↓g_addl, ↓g_muli, ↓g_mult, ↓g_mull, ↓g_sub, ↓g_div, ↓g_mod, ↓g_pow, ↓g_bD, ↓g_lt, ↓g_le, ↓g_gt, ↓g_ge, ↓g_neg, ↓g_bl, ↓g_int, ↓g_lent, ↓g_lenl, ↓g_lens, ↓g_list, ↓g_lisl, ↓g_tupt, ↓g_tupl, ↓g_max, ↓g_min, ↓g_itt, ↓g_itl, ↓g_its, ↓g_slt, ↓g_sll, ↓g_sls, ↓g_rng1, ↓g_rng2, ↓g_enum, ↓g_nm, ↓g_tp, ↓g_gc, ↓g_gn, ↓g_isIntD_non, ↓g_isIntD_bl, ↓g_isIntD_int, ↓g_isIntD_str, ↓g_isIntD_tup, ↓g_isIntD_lst, ↓g_isBoolD_non, ↓g_isBoolD_bl, ↓g_isBoolD_int, ↓g_isBoolD_str, ↓g_isBoolD_tup, ↓g_isBoolD_lst, ↓g_isTupD_non, ↓g_isTupD_bl, ↓g_isTupD_int, ↓g_isTupD_str, ↓g_isTupD_tup, ↓g_isTupD_lst, ↓g_isStrD_non, ↓g_isStrD_bl, ↓g_isStrD_int, ↓g_isStrD_str, ↓g_isStrD_tup, ↓g_isStrD_lst, ↓g_own_non, ↓g_own_bl, ↓g_own_int, ↓g_own_str, ↓g_own_tup, ↓g_own_lst, ↓g_own_ins, ↓g_eqi, ↓g_eqs, ↓g_nei, ↓g_nes, ↓p_bnd, ↓p_ret, ↓p_none, ↓p_fr, ↓p_and, ↓p_or, ↓p_not, ↓p_ifE, ↓p_bl, ↓p_nil, ↓p_cons, ↓p_tup, ↓p_lst, ↓p_drop, ↓p_rt, ↓p_mif, ↓p_for, ↓p_gNil, ↓p_gV, ↓p_gApp, ↓p_rV, ↓p_if, cs_un, cs_fr, List.length_cons, List.length_nil, List.length_map, Nat.zero_add, insD_i, decide_eq_true_eq, Bool.not_eq_true', Bool.not_true, Bool.not_false, decide_eq_false_iff_not, true_and, and_true, ne_eq, not_false_eq_true, List.lookup_cons, Nat.reduceAdd, isN_non, isN_bl, isN_int, isN_str, isN_tup, isN_lst, ↓reduceIte]
    refine init_spec ht hg ?_
    simp (decide := true) only [rowO, List.append_nil, List.cons_append, List.nil_append, ↓k_some, ↓k_no, ↓k_ite, ↓getK_0, ↓getK_s, ↓setK_0, ↓setK_s, ↓ff_0, ↓ff_s, ↓ff_o, ↓fo_l, ↓fo_i, ↓fk_fr, ↓fk_ow, ↓vk_fr, ↓vk_ow, ↓vw_fr, ↓vw_l, ↓mv_fr, ↓mv_ow, ↓sq_nx, ↓sq_bk, ↓sq_ct, ↓sq_rt, ↓fi_rt, ↓fi_nx, ↓ou_0, ↓ou_fr, ↓ou_ow, ↓ou_un, ↓ou_of, ↓ou_on, ↓un_00, ↓un_0s, ↓un_s, ↓rk_fr, ↓rk_un, ↓rk_ow, ↓ak_l, ↓lk_l, ↓si_l, ↓ls_0, ↓ls_s, ↓gb_fr, ↓gb_ow, ↓rb_fr, ↓rb_ow, ↓to_0, ↓to_v, ↓to_b, ↓to_map, ↓to_mapn, ↓tb_fr, ↓tb_ow, ↓bk_0, ↓bk_v, ↓bk_bi, ↓ba_0, ↓ba_s, ↓bk_mapf, ↓bk_mapn, ↓bb_fr, ↓bb_ow, ↓ui_un, ↓set_tag, ↓set_tagf, ↓df_0, ↓sp_0, ↓sp_n, ↓sp_s, ↓fs_0, ↓fs_s, ↓fs_map, ↓ct_0, ↓ct_fr, ↓ct_un, ↓ct_ow, ↓ap_00, ↓ap_0s, ↓ap_s, ↓as_0, ↓as_s, ↓in_v, ↓in_b, ↓ib_fr, ↓ib_ow, ↓fl_v, ↓fr_fd, ↓fl_b, ↓fb_fr, ↓fb_ow, ↓get_look, ↓ln_i, ↓sf_fr, ↓sf_ow, ↓mk_r, ↓w_var, ↓w_view, ↓w_lift, ↓w_frz, ↓w_m1, ↓w_m2, ↓w_mV2, ↓w_m2V, ↓w_tst, ↓w_isN, ↓w_notN, ↓bv_bl, ↓w_andV, ↓w_orV, ↓nv_bl, ↓w_notV, ↓w_ch, ↓pt_i, ↓w_part, ↓w_sl, ↓w_slV, ↓w_cal, ↓w_lenV, ↓w_is, ↓w_isO, ↓w_put, ↓w_set, ↓w_move, ↓w_seq, ↓w_asg, ↓w_app, ↓w_setI, ↓w_items, ↓w_gB, ↓w_rB, ↓w_cl, ↓w_callA, ↓w_gStar, ↓w_fld, ↓get_d1, ↓w_mth, ↓w_mthS, ↓w_prp, ↓w_lenO, ↓w_own2, ↓w_ownB, ↓w_augO, ↓w_setF, ↓w_fn, ↓w_mk, ↓w_arg, ↓w_any, ↓w_kw, ↓selR, ↓selA, ↓sQ_0, ↓sQ_s, ↓st_nx, ↓st_ct, ↓st_bk, ↓st_rt, ↓w_lc, ↓g_ixt, ↓g_ixl, ↓g_ixs, ↓at_0, ↓at_1, ↓at_2, ↓at_3, ↓ix_0, ↓ix_1, ↓ix_2, ↓g_addi, ↓g_adds, ↓g_addt, ↓g_addl, ↓g_muli, ↓g_mult, ↓g_mull, ↓g_sub, ↓g_div, ↓g_mod, ↓g_pow, ↓g_bD, ↓g_lt, ↓g_le, ↓g_gt, ↓g_ge, ↓g_neg, ↓g_bl, ↓g_int, ↓g_lent, ↓g_lenl, ↓g_lens, ↓g_list, ↓g_lisl, ↓g_tupt, ↓g_tupl, ↓g_max, ↓g_min, ↓g_itt, ↓g_itl, ↓g_its, ↓g_slt, ↓g_sll, ↓g_sls, ↓g_rng1, ↓g_rng2, ↓g_enum, ↓g_nm, ↓g_tp, ↓g_gc, ↓g_gn, ↓g_isIntD_non, ↓g_isIntD_bl, ↓g_isIntD_int, ↓g_isIntD_str, ↓g_isIntD_tup, ↓g_isIntD_lst, ↓g_isBoolD_non, ↓g_isBoolD_bl, ↓g_isBoolD_int, ↓g_isBoolD_str, ↓g_isBoolD_tup, ↓g_isBoolD_lst, ↓g_isTupD_non, ↓g_isTupD_bl, ↓g_isTupD_int, ↓g_isTupD_str, ↓g_isTupD_tup, ↓g_isTupD_lst, ↓g_isStrD_non, ↓g_isStrD_bl, ↓g_isStrD_int, ↓g_isStrD_str, ↓g_isStrD_tup, ↓g_isStrD_lst, ↓g_own_non, ↓g_own_bl, ↓g_own_int, ↓g_own_str, ↓g_own_tup, ↓g_own_lst, ↓g_own_ins, ↓g_eqi, ↓g_eqs, ↓g_nei, ↓g_nes, ↓p_bnd, ↓p_ret, ↓p_none, ↓p_fr, ↓p_and, ↓p_or, ↓p_not, ↓p_ifE, ↓p_bl, ↓p_nil, ↓p_cons, ↓p_tup, ↓p_lst, ↓p_drop, ↓p_rt, ↓p_mif, ↓p_for, ↓p_gNil, ↓p_gV, ↓p_gApp, ↓p_rV, ↓p_if, cs_un, cs_fr, List.length_cons, List.length_nil, List.length_map, Nat.zero_add, insD_i, decide_eq_true_eq, Bool.not_eq_true', Bool.not_true, Bool.not_false, decide_eq_false_iff_not, true_and, and_true, ne_eq, not_false_eq_true, List.lookup_cons, Nat.reduceAdd, isN_non, isN_bl, isN_int, isN_str, isN_tup, isN_lst, ↓reduceIte]
    exact h

end Law
end
section
set_option exponentiation.threshold 2000
namespace Law
open PySem PySem.Spec PyProof.Rows L2 L3
variable {Z : Cs}
theorem cut_lo {l : List D} {c : Int} (h0 : 0 ≤ c) (h1 : c ≤ l.length) : L3.cut l none (some c) = l.take c.toNat := by
  unfold L3.cut
  simp [HT.sIx]
  rw [if_neg (by omega)]
  omega
theorem cut_hi {l : List D} {c : Int} (h0 : 0 ≤ c) (h1 : c ≤ l.length) : L3.cut l (some c) none = l.drop c.toNat := by
  unfold L3.cut
  simp [HT.sIx]
  rw [if_neg (by omega), show min c.toNat l.length = c.toNat by omega]
  exact List.take_of_length_le (by simp)
def MadeI (Z : Cs) (l : List D) (t ds : List D) (r c : Int) (k : Nat) (a : AS) : Prop := ∃ x : Sl, a = [.ow (some 0) (.lst l), .fr (.tup t), .fr (.tup ds), .fr (.int r), .fr (.int c), .ow none (rowO Z t (ds.take (c.toNat + k))), x]
theorem Gates.take {s : Int} {ds : List D} (h : Gates s ds) (k : Nat) : Gates s (ds.take k) := fun d hd => h d (List.mem_of_mem_take hd)
theorem Gates.drop {s : Int} {ds : List D} (h : Gates s ds) (k : Nat) : Gates s (ds.drop k) := fun d hd => h d (List.mem_of_mem_drop hd)
theorem made_spec {l t ds : List D} {n : Int} {Q : Sl → List Sl → Prop} (hp : Pot n l) (hn : n ≤ 600000000000) (ht : IsTree t) (hg : Gates t.length ds) (hl : ds.length ≤ 8)
    (h : ∀ l', Pot (n + 2) l' → Q (.ow none (rowO Z t ds)) [.ow (some 0) (.lst l'), .fr (.tup t), .fr (.tup ds)]) : PostF (f_l_made Z) [.ow (some 0) (.lst l), .fr (.tup t), .fr (.tup ds)] Q := by
  unfold f_l_made b_l_made
  simp (decide := true) only [List.append_nil, List.cons_append, List.nil_append, ↓k_some, ↓k_no, ↓k_ite, ↓getK_0, ↓getK_s, ↓setK_0, ↓setK_s, ↓ff_0, ↓ff_s, ↓ff_o, ↓fo_l, ↓fo_i, ↓fk_fr, ↓fk_ow, ↓vk_fr, ↓vk_ow, ↓vw_fr, ↓vw_l, ↓mv_fr, ↓mv_ow, ↓sq_nx, ↓sq_bk, ↓sq_ct, ↓sq_rt, ↓fi_rt, ↓fi_nx, ↓ou_0, ↓ou_fr, ↓ou_ow, ↓ou_un, ↓ou_of, ↓ou_on, ↓un_00, ↓un_0s, ↓un_s, ↓rk_fr, ↓rk_un, ↓rk_ow, ↓ak_l, ↓lk_l, ↓si_l, ↓ls_0, ↓ls_s, ↓gb_fr, ↓gb_ow, ↓rb_fr, ↓rb_ow, ↓to_0, ↓to_v, ↓to_b, ↓to_map, ↓to_mapn, ↓tb_fr, ↓tb_ow, ↓bk_0, ↓bk_v, ↓bk_bi, ↓ba_0, ↓ba_s, ↓bk_mapf, ↓bk_mapn, ↓bb_fr, ↓bb_ow, ↓ui_un, ↓set_tag, ↓set_tagf, ↓df_0, ↓sp_0, ↓sp_n, ↓sp_s, ↓fs_0, ↓fs_s, ↓fs_map, ↓ct_0, ↓ct_fr, ↓ct_un, ↓ct_ow, ↓ap_00, ↓ap_0s, ↓ap_s, ↓as_0, ↓as_s, ↓in_v, ↓in_b, ↓ib_fr, ↓ib_ow, ↓fl_v, ↓fr_fd, ↓fl_b, ↓fb_fr, ↓fb_ow, ↓get_look, ↓ln_i, ↓sf_fr, ↓sf_ow, ↓mk_r, ↓w_var, ↓w_view, ↓w_lift, ↓w_frz, ↓w_m1, ↓w_m2, ↓w_mV2, ↓w_m2V, ↓w_tst, ↓w_isN, ↓w_notN, ↓bv_bl, ↓w_andV, ↓w_orV, ↓nv_bl, ↓w_notV, ↓w_ch, ↓pt_i, ↓w_part, ↓w_sl, ↓w_slV, ↓w_cal, ↓w_lenV, ↓w_is, ↓w_isO, ↓w_put, ↓w_set, ↓w_move, ↓w_seq, ↓w_asg, ↓w_app, ↓w_setI, ↓w_items, ↓w_gB, ↓w_rB, ↓w_cl, ↓w_callA, ↓w_gStar, ↓w_fld, ↓get_d1, ↓w_mth, ↓w_mthS, ↓w_prp, ↓w_lenO, ↓w_own2, ↓w_ownB, ↓w_augO, ↓w_setF, ↓w_fn, ↓w_mk, ↓w_arg, ↓w_any, ↓w_kw, ↓selR, ↓selA, ↓sQ_0, ↓sQ_s, ↓st_nx, ↓st_ct, ↓st_bk, ↓st_rt, ↓w_lc, ↓g_ixt, ↓g_ixl, ↓g_ixs, ↓at_0, ↓at_1, ↓at_2, ↓at_3, ↓ix_0, ↓ix_1, ↓ix_2, ↓g_addi, ↓g_adds, ↓g_addt, ↓g_addl, ↓g_muli, ↓g_mult, ↓g_mull, ↓g_sub, ↓g_div, ↓g_mod, ↓g_pow, ↓g_bD, ↓g_lt, ↓g_le, ↓g_gt, ↓g_ge, ↓g_neg, ↓g_bl, ↓g_int, ↓g_lent, ↓g_lenl, ↓g_lens, ↓g_list, ↓g_lisl, ↓g_tupt, ↓g_tupl, ↓g_max, ↓g_min, ↓g_itt, ↓g_itl, ↓g_its, ↓g_slt, ↓g_sll, ↓g_sls, ↓g_rng1, ↓g_rng2, ↓g_enum, ↓g_nm, ↓g_tp, ↓g_gc, ↓g_gn, ↓g_isIntD_non, ↓g_isIntD_bl, ↓g_isIntD_int, ↓g_isIntD_str, ↓g_isIntD_tup, ↓g_isIntD_lst, ↓g_isBoolD_non, ↓g_isBoolD_bl, ↓g_isBoolD_int, ↓g_isBoolD_str, ↓g_isBoolD_tup, ↓g_isBoolD_lst, ↓g_isTupD_non, ↓g_isTupD_bl, ↓g_isTupD_int, ↓g_isTupD_str, ↓g_isTupD_tup, ↓g_isTupD_lst, ↓g_isStrD_non, ↓g_isStrD_bl, ↓g_isStrD_int, ↓g_isStrD_str, ↓g_isStrD_tup, ↓g_isStrD_lst, ↓g_own_non, ↓g_own_bl, ↓g_own_int, ↓g_own_str, ↓g_own_tup, ↓g_own_lst, ↓g_own_ins, ↓g_eqi, ↓g_eqs, ↓g_nei, ↓g_nes, ↓p_bnd, ↓p_ret, ↓p_none, ↓p_fr, ↓p_and, ↓p_or, ↓p_not, ↓p_ifE, ↓p_bl, ↓p_nil, ↓p_cons, ↓p_tup, ↓p_lst, ↓p_drop, ↓p_rt, ↓p_mif, ↓p_for, ↓p_gNil, ↓p_gV, ↓p_gApp, ↓p_rV, ↓p_if, cs_un, cs_fr, List.length_cons, List.length_nil, List.length_map, Nat.zero_add, insD_i, decide_eq_true_eq, Bool.not_eq_true', Bool.not_true, Bool.not_false, decide_eq_false_iff_not, true_and, and_true, ne_eq, not_false_eq_true, List.lookup_cons, Nat.reduceAdd, isN_non, isN_bl, isN_int, isN_str, isN_tup, isN_lst, ↓reduceIte]
  refine pick_spec hp (by omega) (by omega) (by omega) fun d1 l1 a1 a2 p1 => ?_
  simp (decide := true) only [List.append_nil, List.cons_append, List.nil_append, ↓k_some, ↓k_no, ↓k_ite, ↓getK_0, ↓getK_s, ↓setK_0, ↓setK_s, ↓ff_0, ↓ff_s, ↓ff_o, ↓fo_l, ↓fo_i, ↓fk_fr, ↓fk_ow, ↓vk_fr, ↓vk_ow, ↓vw_fr, ↓vw_l, ↓mv_fr, ↓mv_ow, ↓sq_nx, ↓sq_bk, ↓sq_ct, ↓sq_rt, ↓fi_rt, ↓fi_nx, ↓ou_0, ↓ou_fr, ↓ou_ow, ↓ou_un, ↓ou_of, ↓ou_on, ↓un_00, ↓un_0s, ↓un_s, ↓rk_fr, ↓rk_un, ↓rk_ow, ↓ak_l, ↓lk_l, ↓si_l, ↓ls_0, ↓ls_s, ↓gb_fr, ↓gb_ow, ↓rb_fr, ↓rb_ow, ↓to_0, ↓to_v, ↓to_b, ↓to_map, ↓to_mapn, ↓tb_fr, ↓tb_ow, ↓bk_0, ↓bk_v, ↓bk_bi, ↓ba_0, ↓ba_s, ↓bk_mapf, ↓bk_mapn, ↓bb_fr, ↓bb_ow, ↓ui_un, ↓set_tag, ↓set_tagf, ↓df_0, ↓sp_0, ↓sp_n, ↓sp_s, ↓fs_0, ↓fs_s, ↓fs_map, ↓ct_0, ↓ct_fr, ↓ct_un, ↓ct_ow, ↓ap_00, ↓ap_0s, ↓ap_s, ↓as_0, ↓as_s, ↓in_v, ↓in_b, ↓ib_fr, ↓ib_ow, ↓fl_v, ↓fr_fd, ↓fl_b, ↓fb_fr, ↓fb_ow, ↓get_look, ↓ln_i, ↓sf_fr, ↓sf_ow, ↓mk_r, ↓w_var, ↓w_view, ↓w_lift, ↓w_frz, ↓w_m1, ↓w_m2, ↓w_mV2, ↓w_m2V, ↓w_tst, ↓w_isN, ↓w_notN, ↓bv_bl, ↓w_andV, ↓w_orV, ↓nv_bl, ↓w_notV, ↓w_ch, ↓pt_i, ↓w_part, ↓w_sl, ↓w_slV, ↓w_cal, ↓w_lenV, ↓w_is, ↓w_isO, ↓w_put, ↓w_set, ↓w_move, ↓w_seq, ↓w_asg, ↓w_app, ↓w_setI, ↓w_items, ↓w_gB, ↓w_rB, ↓w_cl, ↓w_callA, ↓w_gStar, ↓w_fld, ↓get_d1, ↓w_mth, ↓w_mthS, ↓w_prp, ↓w_lenO, ↓w_own2, ↓w_ownB, ↓w_augO, ↓w_setF, ↓w_fn, ↓w_mk, ↓w_arg, ↓w_any, ↓w_kw, ↓selR, ↓selA, ↓sQ_0, ↓sQ_s, ↓st_nx, ↓st_ct, ↓st_bk, ↓st_rt, ↓w_lc, ↓g_ixt, ↓g_ixl, ↓g_ixs, ↓at_0, ↓at_1, ↓at_2, ↓at_3, ↓ix_0, ↓ix_1, ↓ix_2, ↓g_addi, ↓g_adds, ↓g_addt, ↓g_addl, ↓g_muli, ↓g_mult, ↓g_mull, ↓g_sub, ↓g_div, ↓g_mod, ↓g_pow, ↓g_bD, ↓g_lt, ↓g_le, ↓g_gt, ↓g_ge, ↓g_neg, ↓g_bl, ↓g_int, ↓g_lent, ↓g_lenl, ↓g_lens, ↓g_list, ↓g_lisl, ↓g_tupt, ↓g_tupl, ↓g_max, ↓g_min, ↓g_itt, ↓g_itl, ↓g_its, ↓g_slt, ↓g_sll, ↓g_sls, ↓g_rng1, ↓g_rng2, ↓g_enum, ↓g_nm, ↓g_tp, ↓g_gc, ↓g_gn, ↓g_isIntD_non, ↓g_isIntD_bl, ↓g_isIntD_int, ↓g_isIntD_str, ↓g_isIntD_tup, ↓g_isIntD_lst, ↓g_isBoolD_non, ↓g_isBoolD_bl, ↓g_isBoolD_int, ↓g_isBoolD_str, ↓g_isBoolD_tup, ↓g_isBoolD_lst, ↓g_isTupD_non, ↓g_isTupD_bl, ↓g_isTupD_int, ↓g_isTupD_str, ↓g_isTupD_tup, ↓g_isTupD_lst, ↓g_isStrD_non, ↓g_isStrD_bl, ↓g_isStrD_int, ↓g_isStrD_str, ↓g_isStrD_tup, ↓g_isStrD_lst, ↓g_own_non, ↓g_own_bl, ↓g_own_int, ↓g_own_str, ↓g_own_tup, ↓g_own_lst, ↓g_own_ins, ↓g_eqi, ↓g_eqs, ↓g_nei, ↓g_nes, ↓p_bnd, ↓p_ret, ↓p_none, ↓p_fr, ↓p_and, ↓p_or, ↓p_not, ↓p_ifE, ↓p_bl, ↓p_nil, ↓p_cons, ↓p_tup, ↓p_lst, ↓p_drop, ↓p_rt, ↓p_mif, ↓p_for, ↓p_gNil, ↓p_gV, ↓p_gApp, ↓p_rV, ↓p_if, cs_un, cs_fr, List.length_cons, List.length_nil, List.length_map, Nat.zero_add, insD_i, decide_eq_true_eq, Bool.not_eq_true', Bool.not_true, Bool.not_false, decide_eq_false_iff_not, true_and, and_true, ne_eq, not_false_eq_true, List.lookup_cons, Nat.reduceAdd, isN_non, isN_bl, isN_int, isN_str, isN_tup, isN_lst, ↓reduceIte]
  refine pick_spec p1 (by omega) (by omega) (by omega) fun d2 l2 b1 b2 p2 => ?_
  have len1 : (ds.take d2.toNat).length ≤ 40 := by simp; omega
  have len2 : (ds.drop d2.toNat).length ≤ 40 := by simp; omega
  have all : ds.take d2.toNat ++ ds.drop d2.toNat = ds := List.take_append_drop _ _
  have c1 := cut_lo (l := ds) b1 (by omega)
  have c2 := cut_hi (l := ds) b1 (by omega)
  have loop : ∀ (l3 : List D) (r : Int), Pot (n + 2) l3 → Post (L3.forM (gNm 6) (mSet 5 (mMth (some "behind") (disp1 Z.Doors (argM 2 0 (fun _ => some []) (f_Doors_behind Z))) (rB 5) (gApp (gV (mVar 6) L3.gNil) L3.gNil))) (ds.drop d2.toNat)) [.ow (some 0) (.lst l3), .fr (.tup t), .fr (.tup ds), .fr (.int r), .fr (.int d2), .ow none (rowO Z t (ds.take d2.toNat)), .un] fun o a1 =>
      seqK o a1 (mRet (mMove 5)) fun o a' => finK o [.ow (some 0) (.lst l), .fr (.tup t), .fr (.tup ds)] a' Q := fun l3 r p3 => by
    refine for_inv (MadeI Z l3 t ds r d2) ?_ ?_ ?_
    · exact ⟨.un, rfl⟩
    · rintro i d a hd ⟨x, rfl⟩
      rw [List.getElem?_drop] at hd
      simp (decide := true) only [rowO, c1, c2, List.append_nil, List.cons_append, List.nil_append, ↓k_some, ↓k_no, ↓k_ite, ↓getK_0, ↓getK_s, ↓setK_0, ↓setK_s, ↓ff_0, ↓ff_s, ↓ff_o, ↓fo_l, ↓fo_i, ↓fk_fr, ↓fk_ow, ↓vk_fr, ↓vk_ow, ↓vw_fr, ↓vw_l, ↓mv_fr, ↓mv_ow, ↓sq_nx, ↓sq_bk, ↓sq_ct, ↓sq_rt, ↓fi_rt, ↓fi_nx, ↓ou_0, ↓ou_fr, ↓ou_ow, ↓ou_un, ↓ou_of, ↓ou_on, ↓un_00, ↓un_0s, ↓un_s, ↓rk_fr, ↓rk_un, ↓rk_ow, ↓ak_l, ↓lk_l, ↓si_l, ↓ls_0, ↓ls_s, ↓gb_fr, ↓gb_ow, ↓rb_fr, ↓rb_ow, ↓to_0, ↓to_v, ↓to_b, ↓to_map, ↓to_mapn, ↓tb_fr, ↓tb_ow, ↓bk_0, ↓bk_v, ↓bk_bi, ↓ba_0, ↓ba_s, ↓bk_mapf, ↓bk_mapn, ↓bb_fr, ↓bb_ow, ↓ui_un, ↓set_tag, ↓set_tagf, ↓df_0, ↓sp_0, ↓sp_n, ↓sp_s, ↓fs_0, ↓fs_s, ↓fs_map, ↓ct_0, ↓ct_fr, ↓ct_un, ↓ct_ow, ↓ap_00, ↓ap_0s, ↓ap_s, ↓as_0, ↓as_s, ↓in_v, ↓in_b, ↓ib_fr, ↓ib_ow, ↓fl_v, ↓fr_fd, ↓fl_b, ↓fb_fr, ↓fb_ow, ↓get_look, ↓ln_i, ↓sf_fr, ↓sf_ow, ↓mk_r, ↓w_var, ↓w_view, ↓w_lift, ↓w_frz, ↓w_m1, ↓w_m2, ↓w_mV2, ↓w_m2V, ↓w_tst, ↓w_isN, ↓w_notN, ↓bv_bl, ↓w_andV, ↓w_orV, ↓nv_bl, ↓w_notV, ↓w_ch, ↓pt_i, ↓w_part, ↓w_sl, ↓w_slV, ↓w_cal, ↓w_lenV, ↓w_is, ↓w_isO, ↓w_put, ↓w_set, ↓w_move, ↓w_seq, ↓w_asg, ↓w_app, ↓w_setI, ↓w_items, ↓w_gB, ↓w_rB, ↓w_cl, ↓w_callA, ↓w_gStar, ↓w_fld, ↓get_d1, ↓w_mth, ↓w_mthS, ↓w_prp, ↓w_lenO, ↓w_own2, ↓w_ownB, ↓w_augO, ↓w_setF, ↓w_fn, ↓w_mk, ↓w_arg, ↓w_any, ↓w_kw, ↓selR, ↓selA, ↓sQ_0, ↓sQ_s, ↓st_nx, ↓st_ct, ↓st_bk, ↓st_rt, ↓w_lc, ↓g_ixt, ↓g_ixl, ↓g_ixs, ↓at_0, ↓at_1, ↓at_2, ↓at_3, ↓ix_0, ↓ix_1, ↓ix_2, ↓g_addi, ↓g_adds, ↓g_addt, ↓g_addl, ↓g_muli, ↓g_mult, ↓g_mull, ↓g_sub, ↓g_div, ↓g_mod, ↓g_pow, ↓g_bD, ↓g_lt, ↓g_le, ↓g_gt, ↓g_ge, ↓g_neg, ↓g_bl, ↓g_int, ↓g_lent, ↓g_lenl, ↓g_lens, ↓g_list, ↓g_lisl, ↓g_tupt, ↓g_tupl, ↓g_max, ↓g_min, ↓g_itt, ↓g_itl, ↓g_its, ↓g_slt, ↓g_sll, ↓g_sls, ↓g_rng1, ↓g_rng2, ↓g_enum, ↓g_nm, ↓g_tp, ↓g_gc, ↓g_gn, ↓g_isIntD_non, ↓g_isIntD_bl, ↓g_isIntD_int, ↓g_isIntD_str, ↓g_isIntD_tup, ↓g_isIntD_lst, ↓g_isBoolD_non, ↓g_isBoolD_bl, ↓g_isBoolD_int, ↓g_isBoolD_str, ↓g_isBoolD_tup, ↓g_isBoolD_lst, ↓g_isTupD_non, ↓g_isTupD_bl, ↓g_isTupD_int, ↓g_isTupD_str, ↓g_isTupD_tup, ↓g_isTupD_lst, ↓g_isStrD_non, ↓g_isStrD_bl, ↓g_isStrD_int, ↓g_isStrD_str, ↓g_isStrD_tup, ↓g_isStrD_lst, ↓g_own_non, ↓g_own_bl, ↓g_own_int, ↓g_own_str, ↓g_own_tup, ↓g_own_lst, ↓g_own_ins, ↓g_eqi, ↓g_eqs, ↓g_nei, ↓g_nes, ↓p_bnd, ↓p_ret, ↓p_none, ↓p_fr, ↓p_and, ↓p_or, ↓p_not, ↓p_ifE, ↓p_bl, ↓p_nil, ↓p_cons, ↓p_tup, ↓p_lst, ↓p_drop, ↓p_rt, ↓p_mif, ↓p_for, ↓p_gNil, ↓p_gV, ↓p_gApp, ↓p_rV, ↓p_if, cs_un, cs_fr, List.length_cons, List.length_nil, List.length_map, Nat.zero_add, insD_i, decide_eq_true_eq, Bool.not_eq_true', Bool.not_true, Bool.not_false, decide_eq_false_iff_not, true_and, and_true, ne_eq, not_false_eq_true, List.lookup_cons, Nat.reduceAdd, isN_non, isN_bl, isN_int, isN_str, isN_tup, isN_lst, ↓reduceIte]
      refine ⟨by rfl, behind_spec ht (.inr rfl) (hg.take _) (by simp; omega) (hg d (List.mem_of_getElem? hd)) ?_⟩
      simp (decide := true) only [rowO, c1, c2, List.append_nil, List.cons_append, List.nil_append, ↓k_some, ↓k_no, ↓k_ite, ↓getK_0, ↓getK_s, ↓setK_0, ↓setK_s, ↓ff_0, ↓ff_s, ↓ff_o, ↓fo_l, ↓fo_i, ↓fk_fr, ↓fk_ow, ↓vk_fr, ↓vk_ow, ↓vw_fr, ↓vw_l, ↓mv_fr, ↓mv_ow, ↓sq_nx, ↓sq_bk, ↓sq_ct, ↓sq_rt, ↓fi_rt, ↓fi_nx, ↓ou_0, ↓ou_fr, ↓ou_ow, ↓ou_un, ↓ou_of, ↓ou_on, ↓un_00, ↓un_0s, ↓un_s, ↓rk_fr, ↓rk_un, ↓rk_ow, ↓ak_l, ↓lk_l, ↓si_l, ↓ls_0, ↓ls_s, ↓gb_fr, ↓gb_ow, ↓rb_fr, ↓rb_ow, ↓to_0, ↓to_v, ↓to_b, ↓to_map, ↓to_mapn, ↓tb_fr, ↓tb_ow, ↓bk_0, ↓bk_v, ↓bk_bi, ↓ba_0, ↓ba_s, ↓bk_mapf, ↓bk_mapn, ↓bb_fr, ↓bb_ow, ↓ui_un, ↓set_tag, ↓set_tagf, ↓df_0, ↓sp_0, ↓sp_n, ↓sp_s, ↓fs_0, ↓fs_s, ↓fs_map, ↓ct_0, ↓ct_fr, ↓ct_un, ↓ct_ow, ↓ap_00, ↓ap_0s, ↓ap_s, ↓as_0, ↓as_s, ↓in_v, ↓in_b, ↓ib_fr, ↓ib_ow, ↓fl_v, ↓fr_fd, ↓fl_b, ↓fb_fr, ↓fb_ow, ↓get_look, ↓ln_i, ↓sf_fr, ↓sf_ow, ↓mk_r, ↓w_var, ↓w_view, ↓w_lift, ↓w_frz, ↓w_m1, ↓w_m2, ↓w_mV2, ↓w_m2V, ↓w_tst, ↓w_isN, ↓w_notN, ↓bv_bl, ↓w_andV, ↓w_orV, ↓nv_bl, ↓w_notV, ↓w_ch, ↓pt_i, ↓w_part, ↓w_sl, ↓w_slV, ↓w_cal, ↓w_lenV, ↓w_is, ↓w_isO, ↓w_put, ↓w_set, ↓w_move, ↓w_seq, ↓w_asg, ↓w_app, ↓w_setI, ↓w_items, ↓w_gB, ↓w_rB, ↓w_cl, ↓w_callA, ↓w_gStar, ↓w_fld, ↓get_d1, ↓w_mth, ↓w_mthS, ↓w_prp, ↓w_lenO, ↓w_own2, ↓w_ownB, ↓w_augO, ↓w_setF, ↓w_fn, ↓w_mk, ↓w_arg, ↓w_any, ↓w_kw, ↓selR, ↓selA, ↓sQ_0, ↓sQ_s, ↓st_nx, ↓st_ct, ↓st_bk, ↓st_rt, ↓w_lc, ↓g_ixt, ↓g_ixl, ↓g_ixs, ↓at_0, ↓at_1, ↓at_2, ↓at_3, ↓ix_0, ↓ix_1, ↓ix_2, ↓g_addi, ↓g_adds, ↓g_addt, ↓g_addl, ↓g_muli, ↓g_mult, ↓g_mull, ↓g_sub, ↓g_div, ↓g_mod, ↓g_pow, ↓g_bD, ↓g_lt, ↓g_le, ↓g_gt, ↓g_ge, ↓g_neg, ↓g_bl, ↓g_int, ↓g_lent, ↓g_lenl, ↓g_lens, ↓g_list, ↓g_lisl, ↓g_tupt, ↓g_tupl, ↓g_max, ↓g_min, ↓g_itt, ↓g_itl, ↓g_its, ↓g_slt, ↓g_sll, ↓g_sls, ↓g_rng1, ↓g_rng2, ↓g_enum, ↓g_nm, ↓g_tp, ↓g_gc, ↓g_gn, ↓g_isIntD_non, ↓g_isIntD_bl, ↓g_isIntD_int, ↓g_isIntD_str, ↓g_isIntD_tup, ↓g_isIntD_lst, ↓g_isBoolD_non, ↓g_isBoolD_bl, ↓g_isBoolD_int, ↓g_isBoolD_str, ↓g_isBoolD_tup, ↓g_isBoolD_lst, ↓g_isTupD_non, ↓g_isTupD_bl, ↓g_isTupD_int, ↓g_isTupD_str, ↓g_isTupD_tup, ↓g_isTupD_lst, ↓g_isStrD_non, ↓g_isStrD_bl, ↓g_isStrD_int, ↓g_isStrD_str, ↓g_isStrD_tup, ↓g_isStrD_lst, ↓g_own_non, ↓g_own_bl, ↓g_own_int, ↓g_own_str, ↓g_own_tup, ↓g_own_lst, ↓g_own_ins, ↓g_eqi, ↓g_eqs, ↓g_nei, ↓g_nes, ↓p_bnd, ↓p_ret, ↓p_none, ↓p_fr, ↓p_and, ↓p_or, ↓p_not, ↓p_ifE, ↓p_bl, ↓p_nil, ↓p_cons, ↓p_tup, ↓p_lst, ↓p_drop, ↓p_rt, ↓p_mif, ↓p_for, ↓p_gNil, ↓p_gV, ↓p_gApp, ↓p_rV, ↓p_if, cs_un, cs_fr, List.length_cons, List.length_nil, List.length_map, Nat.zero_add, insD_i, decide_eq_true_eq, Bool.not_eq_true', Bool.not_true, Bool.not_false, decide_eq_false_iff_not, true_and, and_true, ne_eq, not_false_eq_true, List.lookup_cons, Nat.reduceAdd, isN_non, isN_bl, isN_int, isN_str, isN_tup, isN_lst, ↓reduceIte]
      refine ⟨.fr d, ?_⟩
      rw [show d2.toNat + (i + 1) = d2.toNat + i + 1 by omega, List.take_add_one, hd]
      rfl
    · rintro a ⟨x, rfl⟩
      rw [show ds.take (d2.toNat + (ds.drop d2.toNat).length) = ds from List.take_of_length_le (by simp; omega)]
      simp (decide := true) only [rowO, c1, c2, List.append_nil, List.cons_append, List.nil_append, ↓k_some, ↓k_no, ↓k_ite, ↓getK_0, ↓getK_s, ↓setK_0, ↓setK_s, ↓ff_0, ↓ff_s, ↓ff_o, ↓fo_l, ↓fo_i, ↓fk_fr, ↓fk_ow, ↓vk_fr, ↓vk_ow, ↓vw_fr, ↓vw_l, ↓mv_fr, ↓mv_ow, ↓sq_nx, ↓sq_bk, ↓sq_ct, ↓sq_rt, ↓fi_rt, ↓fi_nx, ↓ou_0, ↓ou_fr, ↓ou_ow, ↓ou_un, ↓ou_of, ↓ou_on, ↓un_00, ↓un_0s, ↓un_s, ↓rk_fr, ↓rk_un, ↓rk_ow, ↓ak_l, ↓lk_l, ↓si_l, ↓ls_0, ↓ls_s, ↓gb_fr, ↓gb_ow, ↓rb_fr, ↓rb_ow, ↓to_0, ↓to_v, ↓to_b, ↓to_map, ↓to_mapn, ↓tb_fr, ↓tb_ow, ↓bk_0, ↓bk_v, ↓bk_bi, ↓ba_0, ↓ba_s, ↓bk_mapf, ↓bk_mapn, ↓bb_fr, ↓bb_ow, ↓ui_un, ↓set_tag, ↓set_tagf, ↓df_0, ↓sp_0, ↓sp_n, ↓sp_s, ↓fs_0, ↓fs_s, ↓fs_map, ↓ct_0, ↓ct_fr, ↓ct_un, ↓ct_ow, ↓ap_00, ↓ap_0s, ↓ap_s, ↓as_0, ↓as_s, ↓in_v, ↓in_b, ↓ib_fr, ↓ib_ow, ↓fl_v, ↓fr_fd, ↓fl_b, ↓fb_fr, ↓fb_ow, ↓get_look, ↓ln_i, ↓sf_fr, ↓sf_ow, ↓mk_r, ↓w_var, ↓w_view, ↓w_lift, ↓w_frz, ↓w_m1, ↓w_m2, ↓w_mV2, ↓w_m2V, ↓w_tst, ↓w_isN, ↓w_notN, ↓bv_bl, ↓w_andV, ↓w_orV, ↓nv_bl, ↓w_notV, ↓w_ch, ↓pt_i, ↓w_part, ↓w_sl, ↓w_slV, ↓w_cal, ↓w_lenV, ↓w_is, ↓w_isO, ↓w_put, ↓w_set, ↓w_move, ↓w_seq, ↓w_asg, ↓w_app, ↓w_setI, ↓w_items, ↓w_gB, ↓w_rB, ↓w_cl, ↓w_callA, ↓w_gStar, ↓w_fld, ↓get_d1, ↓w_mth, ↓w_mthS, ↓w_prp, ↓w_lenO, ↓w_own2, ↓w_ownB, ↓w_augO, ↓w_setF, ↓w_fn, ↓w_mk, ↓w_arg, ↓w_any, ↓w_kw, ↓selR, ↓selA, ↓sQ_0, ↓sQ_s, ↓st_nx, ↓st_ct, ↓st_bk, ↓st_rt, ↓w_lc, ↓g_ixt, ↓g_ixl, ↓g_ixs, ↓at_0, ↓at_1, ↓at_2, ↓at_3, ↓ix_0, ↓ix_1, ↓ix_2, ↓g_addi, ↓g_adds, ↓g_addt, ↓g_addl, ↓g_muli, ↓g_mult, ↓g_mull, ↓g_sub, ↓g_div, ↓g_mod, ↓g_pow, ↓g_bD, ↓g_lt, ↓g_le, ↓g_gt, ↓g_ge, ↓g_neg, ↓g_bl, ↓g_int, ↓g_lent, ↓g_lenl, ↓g_lens, ↓g_list, ↓g_lisl, ↓g_tupt, ↓g_tupl, ↓g_max, ↓g_min, ↓g_itt, ↓g_itl, ↓g_its, ↓g_slt, ↓g_sll, ↓g_sls, ↓g_rng1, ↓g_rng2, ↓g_enum, ↓g_nm, ↓g_tp, ↓g_gc, ↓g_gn, ↓g_isIntD_non, ↓g_isIntD_bl, ↓g_isIntD_int, ↓g_isIntD_str, ↓g_isIntD_tup, ↓g_isIntD_lst, ↓g_isBoolD_non, ↓g_isBoolD_bl, ↓g_isBoolD_int, ↓g_isBoolD_str, ↓g_isBoolD_tup, ↓g_isBoolD_lst, ↓g_isTupD_non, ↓g_isTupD_bl, ↓g_isTupD_int, ↓g_isTupD_str, ↓g_isTupD_tup, ↓g_isTupD_lst, ↓g_isStrD_non, ↓g_isStrD_bl, ↓g_isStrD_int, ↓g_isStrD_str, ↓g_isStrD_tup, ↓g_isStrD_lst, ↓g_own_non, ↓g_own_bl, ↓g_own_int, ↓g_own_str, ↓g_own_tup, ↓g_own_lst, ↓g_own_ins, ↓g_eqi, ↓g_eqs, ↓g_nei, ↓g_nes, ↓p_bnd, ↓p_ret, ↓p_none, ↓p_fr, ↓p_and, ↓p_or, ↓p_not, ↓p_ifE, ↓p_bl, ↓p_nil, ↓p_cons, ↓p_tup, ↓p_lst, ↓p_drop, ↓p_rt, ↓p_mif, ↓p_for, ↓p_gNil, ↓p_gV, ↓p_gApp, ↓p_rV, ↓p_if, cs_un, cs_fr, List.length_cons, List.length_nil, List.length_map, Nat.zero_add, insD_i, decide_eq_true_eq, Bool.not_eq_true', Bool.not_true, Bool.not_false, decide_eq_false_iff_not, true_and, and_true, ne_eq, not_false_eq_true, List.lookup_cons, Nat.reduceAdd, isN_non, isN_bl, isN_int, isN_str, isN_tup, isN_lst, ↓reduceIte]
      exact h _ p3
  rcases (show d1 = 0 ∨ d1 = 1 ∨ d1 = 2 ∨ d1 = 3 ∨ d1 = 4 by omega) with e | e | e | e | e <;> subst e <;> simp (decide := true) only [c1, c2, List.append_nil, List.cons_append, List.nil_append, ↓k_some, ↓k_no, ↓k_ite, ↓getK_0, ↓getK_s, ↓setK_0, ↓setK_s, ↓ff_0, ↓ff_s, ↓ff_o, ↓fo_l, ↓fo_i, ↓fk_fr, ↓fk_ow, ↓vk_fr, ↓vk_ow, ↓vw_fr, ↓vw_l, ↓mv_fr, ↓mv_ow, ↓sq_nx, ↓sq_bk, ↓sq_ct, ↓sq_rt, ↓fi_rt, ↓fi_nx, ↓ou_0, ↓ou_fr, ↓ou_ow, ↓ou_un, ↓ou_of, ↓ou_on, ↓un_00, ↓un_0s, ↓un_s, ↓rk_fr, ↓rk_un, ↓rk_ow, ↓ak_l, ↓lk_l, ↓si_l, ↓ls_0, ↓ls_s, ↓gb_fr, ↓gb_ow, ↓rb_fr, ↓rb_ow, ↓to_0, ↓to_v, ↓to_b, ↓to_map, ↓to_mapn, ↓tb_fr, ↓tb_ow, ↓bk_0, ↓bk_v, ↓bk_bi, ↓ba_0, ↓ba_s, ↓bk_mapf, ↓bk_mapn, ↓bb_fr, ↓bb_ow, ↓ui_un, ↓set_tag, ↓set_tagf, ↓df_0, ↓sp_0, ↓sp_n, ↓sp_s, ↓fs_0, ↓fs_s, ↓fs_map, ↓ct_0, ↓ct_fr, ↓ct_un, ↓ct_ow, ↓ap_00, ↓ap_0s, ↓ap_s, ↓as_0, ↓as_s, ↓in_v, ↓in_b, ↓ib_fr, ↓ib_ow, ↓fl_v, ↓fr_fd, ↓fl_b, ↓fb_fr, ↓fb_ow, ↓get_look, ↓ln_i, ↓sf_fr, ↓sf_ow, ↓mk_r, ↓w_var, ↓w_view, ↓w_lift, ↓w_frz, ↓w_m1, ↓w_m2, ↓w_mV2, ↓w_m2V, ↓w_tst, ↓w_isN, ↓w_notN, ↓bv_bl, ↓w_andV, ↓w_orV, ↓nv_bl, ↓w_notV, ↓w_ch, ↓pt_i, ↓w_part, ↓w_sl, ↓w_slV, ↓w_cal, ↓w_lenV, ↓w_is, ↓w_isO, ↓w_put, ↓w_set, ↓w_move, ↓w_seq, ↓w_asg, ↓w_app, ↓w_setI, ↓w_items, ↓w_gB, ↓w_rB, ↓w_cl, ↓w_callA, ↓w_gStar, ↓w_fld, ↓get_d1, ↓w_mth, ↓w_mthS, ↓w_prp, ↓w_lenO, ↓w_own2, ↓w_ownB, ↓w_augO, ↓w_setF, ↓w_fn, ↓w_mk, ↓w_arg, ↓w_any, ↓w_kw, ↓selR, ↓selA, ↓sQ_0, ↓sQ_s, ↓st_nx, ↓st_ct, ↓st_bk, ↓st_rt, ↓w_lc, ↓g_ixt, ↓g_ixl, ↓g_ixs, ↓at_0, ↓at_1, ↓at_2, ↓at_3, ↓ix_0, ↓ix_1, ↓ix_2, ↓g_addi, ↓g_adds, ↓g_addt, ↓g_addl, ↓g_muli, ↓g_mult, ↓g_mull, ↓g_sub, ↓g_div, ↓g_mod, ↓g_pow, ↓g_bD, ↓g_lt, ↓g_le, ↓g_gt, ↓g_ge, ↓g_neg, ↓g_bl, ↓g_int, ↓g_lent, ↓g_lenl, ↓g_lens, ↓g_list, ↓g_lisl, ↓g_tupt, ↓g_tupl, ↓g_max, ↓g_min, ↓g_itt, ↓g_itl, ↓g_its, ↓g_slt, ↓g_sll, ↓g_sls, ↓g_rng1, ↓g_rng2, ↓g_enum, ↓g_nm, ↓g_tp, ↓g_gc, ↓g_gn, ↓g_isIntD_non, ↓g_isIntD_bl, ↓g_isIntD_int, ↓g_isIntD_str, ↓g_isIntD_tup, ↓g_isIntD_lst, ↓g_isBoolD_non, ↓g_isBoolD_bl, ↓g_isBoolD_int, ↓g_isBoolD_str, ↓g_isBoolD_tup, ↓g_isBoolD_lst, ↓g_isTupD_non, ↓g_isTupD_bl, ↓g_isTupD_int, ↓g_isTupD_str, ↓g_isTupD_tup, ↓g_isTupD_lst, ↓g_isStrD_non, ↓g_isStrD_bl, ↓g_isStrD_int, ↓g_isStrD_str, ↓g_isStrD_tup, ↓g_isStrD_lst, ↓g_own_non, ↓g_own_bl, ↓g_own_int, ↓g_own_str, ↓g_own_tup, ↓g_own_lst, ↓g_own_ins, ↓g_eqi, ↓g_eqs, ↓g_nei, ↓g_nes, ↓p_bnd, ↓p_ret, ↓p_none, ↓p_fr, ↓p_and, ↓p_or, ↓p_not, ↓p_ifE, ↓p_bl, ↓p_nil, ↓p_cons, ↓p_tup, ↓p_lst, ↓p_drop, ↓p_rt, ↓p_mif, ↓p_for, ↓p_gNil, ↓p_gV, ↓p_gApp, ↓p_rV, ↓p_if, cs_un, cs_fr, List.length_cons, List.length_nil, List.length_map, Nat.zero_add, insD_i, decide_eq_true_eq, Bool.not_eq_true', Bool.not_true, Bool.not_false, decide_eq_false_iff_not, true_and, and_true, ne_eq, not_false_eq_true, List.lookup_cons, Nat.reduceAdd, isN_non, isN_bl, isN_int, isN_str, isN_tup, isN_lst, ↓reduceIte]
  · refine of_spec (by omega) ht hg ?_
    simp (decide := true) only [rowO, List.append_nil, List.cons_append, List.nil_append, ↓k_some, ↓k_no, ↓k_ite, ↓getK_0, ↓getK_s, ↓setK_0, ↓setK_s, ↓ff_0, ↓ff_s, ↓ff_o, ↓fo_l, ↓fo_i, ↓fk_fr, ↓fk_ow, ↓vk_fr, ↓vk_ow, ↓vw_fr, ↓vw_l, ↓mv_fr, ↓mv_ow, ↓sq_nx, ↓sq_bk, ↓sq_ct, ↓sq_rt, ↓fi_rt, ↓fi_nx, ↓ou_0, ↓ou_fr, ↓ou_ow, ↓ou_un, ↓ou_of, ↓ou_on, ↓un_00, ↓un_0s, ↓un_s, ↓rk_fr, ↓rk_un, ↓rk_ow, ↓ak_l, ↓lk_l, ↓si_l, ↓ls_0, ↓ls_s, ↓gb_fr, ↓gb_ow, ↓rb_fr, ↓rb_ow, ↓to_0, ↓to_v, ↓to_b, ↓to_map, ↓to_mapn, ↓tb_fr, ↓tb_ow, ↓bk_0, ↓bk_v, ↓bk_bi, ↓ba_0, ↓ba_s, ↓bk_mapf, ↓bk_mapn, ↓bb_fr, ↓bb_ow, ↓ui_un, ↓set_tag, ↓set_tagf, ↓df_0, ↓sp_0, ↓sp_n, ↓sp_s, ↓fs_0, ↓fs_s, ↓fs_map, ↓ct_0, ↓ct_fr, ↓ct_un, ↓ct_ow, ↓ap_00, ↓ap_0s, ↓ap_s, ↓as_0, ↓as_s, ↓in_v, ↓in_b, ↓ib_fr, ↓ib_ow, ↓fl_v, ↓fr_fd, ↓fl_b, ↓fb_fr, ↓fb_ow, ↓get_look, ↓ln_i, ↓sf_fr, ↓sf_ow, ↓mk_r, ↓w_var, ↓w_view, ↓w_lift, ↓w_frz, ↓w_m1, ↓w_m2, ↓w_mV2, ↓w_m2V, ↓w_tst, ↓w_isN, ↓w_notN, ↓bv_bl, ↓w_andV, ↓w_orV, ↓nv_bl, ↓w_notV, ↓w_ch, ↓pt_i, ↓w_part, ↓w_sl, ↓w_slV, ↓w_cal, ↓w_lenV, ↓w_is, ↓w_isO, ↓w_put, ↓w_set, ↓w_move, ↓w_seq, ↓w_asg, ↓w_app, ↓w_setI, ↓w_items, ↓w_gB, ↓w_rB, ↓w_cl, ↓w_callA, ↓w_gStar, ↓w_fld, ↓get_d1, ↓w_mth, ↓w_mthS, ↓w_prp, ↓w_lenO, ↓w_own2, ↓w_ownB, ↓w_augO, ↓w_setF, ↓w_fn, ↓w_mk, ↓w_arg, ↓w_any, ↓w_kw, ↓selR, ↓selA, ↓sQ_0, ↓sQ_s, ↓st_nx, ↓st_ct, ↓st_bk, ↓st_rt, ↓w_lc, ↓g_ixt, ↓g_ixl, ↓g_ixs, ↓at_0, ↓at_1, ↓at_2, ↓at_3, ↓ix_0, ↓ix_1, ↓ix_2, ↓g_addi, ↓g_adds, ↓g_addt, ↓g_addl, ↓g_muli, ↓g_mult, ↓g_mull, ↓g_sub, ↓g_div, ↓g_mod, ↓g_pow, ↓g_bD, ↓g_lt, ↓g_le, ↓g_gt, ↓g_ge, ↓g_neg, ↓g_bl, ↓g_int, ↓g_lent, ↓g_lenl, ↓g_lens, ↓g_list, ↓g_lisl, ↓g_tupt, ↓g_tupl, ↓g_max, ↓g_min, ↓g_itt, ↓g_itl, ↓g_its, ↓g_slt, ↓g_sll, ↓g_sls, ↓g_rng1, ↓g_rng2, ↓g_enum, ↓g_nm, ↓g_tp, ↓g_gc, ↓g_gn, ↓g_isIntD_non, ↓g_isIntD_bl, ↓g_isIntD_int, ↓g_isIntD_str, ↓g_isIntD_tup, ↓g_isIntD_lst, ↓g_isBoolD_non, ↓g_isBoolD_bl, ↓g_isBoolD_int, ↓g_isBoolD_str, ↓g_isBoolD_tup, ↓g_isBoolD_lst, ↓g_isTupD_non, ↓g_isTupD_bl, ↓g_isTupD_int, ↓g_isTupD_str, ↓g_isTupD_tup, ↓g_isTupD_lst, ↓g_isStrD_non, ↓g_isStrD_bl, ↓g_isStrD_int, ↓g_isStrD_str, ↓g_isStrD_tup, ↓g_isStrD_lst, ↓g_own_non, ↓g_own_bl, ↓g_own_int, ↓g_own_str, ↓g_own_tup, ↓g_own_lst, ↓g_own_ins, ↓g_eqi, ↓g_eqs, ↓g_nei, ↓g_nes, ↓p_bnd, ↓p_ret, ↓p_none, ↓p_fr, ↓p_and, ↓p_or, ↓p_not, ↓p_ifE, ↓p_bl, ↓p_nil, ↓p_cons, ↓p_tup, ↓p_lst, ↓p_drop, ↓p_rt, ↓p_mif, ↓p_for, ↓p_gNil, ↓p_gV, ↓p_gApp, ↓p_rV, ↓p_if, cs_un, cs_fr, List.length_cons, List.length_nil, List.length_map, Nat.zero_add, insD_i, decide_eq_true_eq, Bool.not_eq_true', Bool.not_true, Bool.not_false, decide_eq_false_iff_not, true_and, and_true, ne_eq, not_false_eq_true, List.lookup_cons, Nat.reduceAdd, isN_non, isN_bl, isN_int, isN_str, isN_tup, isN_lst, ↓reduceIte]
    exact h _ (p2.mono (by omega))
  · split
    · refine spelled_spec ht hg (by omega) ?_
      simp (decide := true) only [rowO, List.append_nil, List.cons_append, List.nil_append, ↓k_some, ↓k_no, ↓k_ite, ↓getK_0, ↓getK_s, ↓setK_0, ↓setK_s, ↓ff_0, ↓ff_s, ↓ff_o, ↓fo_l, ↓fo_i, ↓fk_fr, ↓fk_ow, ↓vk_fr, ↓vk_ow, ↓vw_fr, ↓vw_l, ↓mv_fr, ↓mv_ow, ↓sq_nx, ↓sq_bk, ↓sq_ct, ↓sq_rt, ↓fi_rt, ↓fi_nx, ↓ou_0, ↓ou_fr, ↓ou_ow, ↓ou_un, ↓ou_of, ↓ou_on, ↓un_00, ↓un_0s, ↓un_s, ↓rk_fr, ↓rk_un, ↓rk_ow, ↓ak_l, ↓lk_l, ↓si_l, ↓ls_0, ↓ls_s, ↓gb_fr, ↓gb_ow, ↓rb_fr, ↓rb_ow, ↓to_0, ↓to_v, ↓to_b, ↓to_map, ↓to_mapn, ↓tb_fr, ↓tb_ow, ↓bk_0, ↓bk_v, ↓bk_bi, ↓ba_0, ↓ba_s, ↓bk_mapf, ↓bk_mapn, ↓bb_fr, ↓bb_ow, ↓ui_un, ↓set_tag, ↓set_tagf, ↓df_0, ↓sp_0, ↓sp_n, ↓sp_s, ↓fs_0, ↓fs_s, ↓fs_map, ↓ct_0, ↓ct_fr, ↓ct_un, ↓ct_ow, ↓ap_00, ↓ap_0s, ↓ap_s, ↓as_0, ↓as_s, ↓in_v, ↓in_b, ↓ib_fr, ↓ib_ow, ↓fl_v, ↓fr_fd, ↓fl_b, ↓fb_fr, ↓fb_ow, ↓get_look, ↓ln_i, ↓sf_fr, ↓sf_ow, ↓mk_r, ↓w_var, ↓w_view, ↓w_lift, ↓w_frz, ↓w_m1, ↓w_m2, ↓w_mV2, ↓w_m2V, ↓w_tst, ↓w_isN, ↓w_notN, ↓bv_bl, ↓w_andV, ↓w_orV, ↓nv_bl, ↓w_notV, ↓w_ch, ↓pt_i, ↓w_part, ↓w_sl, ↓w_slV, ↓w_cal, ↓w_lenV, ↓w_is, ↓w_isO, ↓w_put, ↓w_set, ↓w_move, ↓w_seq, ↓w_asg, ↓w_app, ↓w_setI, ↓w_items, ↓w_gB, ↓w_rB, ↓w_cl, ↓w_callA, ↓w_gStar, ↓w_fld, ↓get_d1, ↓w_mth, ↓w_mthS, ↓w_prp, ↓w_lenO, ↓w_own2, ↓w_ownB, ↓w_augO, ↓w_setF, ↓w_fn, ↓w_mk, ↓w_arg, ↓w_any, ↓w_kw, ↓selR, ↓selA, ↓sQ_0, ↓sQ_s, ↓st_nx, ↓st_ct, ↓st_bk, ↓st_rt, ↓w_lc, ↓g_ixt, ↓g_ixl, ↓g_ixs, ↓at_0, ↓at_1, ↓at_2, ↓at_3, ↓ix_0, ↓ix_1, ↓ix_2, ↓g_addi, ↓g_adds, ↓g_addt, ↓g_addl, ↓g_muli, ↓g_mult, ↓g_mull, ↓g_sub, ↓g_div, ↓g_mod, ↓g_pow, ↓g_bD, ↓g_lt, ↓g_le, ↓g_gt, ↓g_ge, ↓g_neg, ↓g_bl, ↓g_int, ↓g_lent, ↓g_lenl, ↓g_lens, ↓g_list, ↓g_lisl, ↓g_tupt, ↓g_tupl, ↓g_max, ↓g_min, ↓g_itt, ↓g_itl, ↓g_its, ↓g_slt, ↓g_sll, ↓g_sls, ↓g_rng1, ↓g_rng2, ↓g_enum, ↓g_nm, ↓g_tp, ↓g_gc, ↓g_gn, ↓g_isIntD_non, ↓g_isIntD_bl, ↓g_isIntD_int, ↓g_isIntD_str, ↓g_isIntD_tup, ↓g_isIntD_lst, ↓g_isBoolD_non, ↓g_isBoolD_bl, ↓g_isBoolD_int, ↓g_isBoolD_str, ↓g_isBoolD_tup, ↓g_isBoolD_lst, ↓g_isTupD_non, ↓g_isTupD_bl, ↓g_isTupD_int, ↓g_isTupD_str, ↓g_isTupD_tup, ↓g_isTupD_lst, ↓g_isStrD_non, ↓g_isStrD_bl, ↓g_isStrD_int, ↓g_isStrD_str, ↓g_isStrD_tup, ↓g_isStrD_lst, ↓g_own_non, ↓g_own_bl, ↓g_own_int, ↓g_own_str, ↓g_own_tup, ↓g_own_lst, ↓g_own_ins, ↓g_eqi, ↓g_eqs, ↓g_nei, ↓g_nes, ↓p_bnd, ↓p_ret, ↓p_none, ↓p_fr, ↓p_and, ↓p_or, ↓p_not, ↓p_ifE, ↓p_bl, ↓p_nil, ↓p_cons, ↓p_tup, ↓p_lst, ↓p_drop, ↓p_rt, ↓p_mif, ↓p_for, ↓p_gNil, ↓p_gV, ↓p_gApp, ↓p_rV, ↓p_if, cs_un, cs_fr, List.length_cons, List.length_nil, List.length_map, Nat.zero_add, insD_i, decide_eq_true_eq, Bool.not_eq_true', Bool.not_true, Bool.not_false, decide_eq_false_iff_not, true_and, and_true, ne_eq, not_false_eq_true, List.lookup_cons, Nat.reduceAdd, isN_non, isN_bl, isN_int, isN_str, isN_tup, isN_lst, ↓reduceIte]
      exact h _ (p2.mono (by omega))
    · refine of_spec (by omega) ht (hg.take _) ?_
      simp (decide := true) only [rowO, c1, c2, List.append_nil, List.cons_append, List.nil_append, ↓k_some, ↓k_no, ↓k_ite, ↓getK_0, ↓getK_s, ↓setK_0, ↓setK_s, ↓ff_0, ↓ff_s, ↓ff_o, ↓fo_l, ↓fo_i, ↓fk_fr, ↓fk_ow, ↓vk_fr, ↓vk_ow, ↓vw_fr, ↓vw_l, ↓mv_fr, ↓mv_ow, ↓sq_nx, ↓sq_bk, ↓sq_ct, ↓sq_rt, ↓fi_rt, ↓fi_nx, ↓ou_0, ↓ou_fr, ↓ou_ow, ↓ou_un, ↓ou_of, ↓ou_on, ↓un_00, ↓un_0s, ↓un_s, ↓rk_fr, ↓rk_un, ↓rk_ow, ↓ak_l, ↓lk_l, ↓si_l, ↓ls_0, ↓ls_s, ↓gb_fr, ↓gb_ow, ↓rb_fr, ↓rb_ow, ↓to_0, ↓to_v, ↓to_b, ↓to_map, ↓to_mapn, ↓tb_fr, ↓tb_ow, ↓bk_0, ↓bk_v, ↓bk_bi, ↓ba_0, ↓ba_s, ↓bk_mapf, ↓bk_mapn, ↓bb_fr, ↓bb_ow, ↓ui_un, ↓set_tag, ↓set_tagf, ↓df_0, ↓sp_0, ↓sp_n, ↓sp_s, ↓fs_0, ↓fs_s, ↓fs_map, ↓ct_0, ↓ct_fr, ↓ct_un, ↓ct_ow, ↓ap_00, ↓ap_0s, ↓ap_s, ↓as_0, ↓as_s, ↓in_v, ↓in_b, ↓ib_fr, ↓ib_ow, ↓fl_v, ↓fr_fd, ↓fl_b, ↓fb_fr, ↓fb_ow, ↓get_look, ↓ln_i, ↓sf_fr, ↓sf_ow, ↓mk_r, ↓w_var, ↓w_view, ↓w_lift, ↓w_frz, ↓w_m1, ↓w_m2, ↓w_mV2, ↓w_m2V, ↓w_tst, ↓w_isN, ↓w_notN, ↓bv_bl, ↓w_andV, ↓w_orV, ↓nv_bl, ↓w_notV, ↓w_ch, ↓pt_i, ↓w_part, ↓w_sl, ↓w_slV, ↓w_cal, ↓w_lenV, ↓w_is, ↓w_isO, ↓w_put, ↓w_set, ↓w_move, ↓w_seq, ↓w_asg, ↓w_app, ↓w_setI, ↓w_items, ↓w_gB, ↓w_rB, ↓w_cl, ↓w_callA, ↓w_gStar, ↓w_fld, ↓get_d1, ↓w_mth, ↓w_mthS, ↓w_prp, ↓w_lenO, ↓w_own2, ↓w_ownB, ↓w_augO, ↓w_setF, ↓w_fn, ↓w_mk, ↓w_arg, ↓w_any, ↓w_kw, ↓selR, ↓selA, ↓sQ_0, ↓sQ_s, ↓st_nx, ↓st_ct, ↓st_bk, ↓st_rt, ↓w_lc, ↓g_ixt, ↓g_ixl, ↓g_ixs, ↓at_0, ↓at_1, ↓at_2, ↓at_3, ↓ix_0, ↓ix_1, ↓ix_2, ↓g_addi, ↓g_adds, ↓g_addt, ↓g_addl, ↓g_muli, ↓g_mult, ↓g_mull, ↓g_sub, ↓g_div, ↓g_mod, ↓g_pow, ↓g_bD, ↓g_lt, ↓g_le, ↓g_gt, ↓g_ge, ↓g_neg, ↓g_bl, ↓g_int, ↓g_lent, ↓g_lenl, ↓g_lens, ↓g_list, ↓g_lisl, ↓g_tupt, ↓g_tupl, ↓g_max, ↓g_min, ↓g_itt, ↓g_itl, ↓g_its, ↓g_slt, ↓g_sll, ↓g_sls, ↓g_rng1, ↓g_rng2, ↓g_enum, ↓g_nm, ↓g_tp, ↓g_gc, ↓g_gn, ↓g_isIntD_non, ↓g_isIntD_bl, ↓g_isIntD_int, ↓g_isIntD_str, ↓g_isIntD_tup, ↓g_isIntD_lst, ↓g_isBoolD_non, ↓g_isBoolD_bl, ↓g_isBoolD_int, ↓g_isBoolD_str, ↓g_isBoolD_tup, ↓g_isBoolD_lst, ↓g_isTupD_non, ↓g_isTupD_bl, ↓g_isTupD_int, ↓g_isTupD_str, ↓g_isTupD_tup, ↓g_isTupD_lst, ↓g_isStrD_non, ↓g_isStrD_bl, ↓g_isStrD_int, ↓g_isStrD_str, ↓g_isStrD_tup, ↓g_isStrD_lst, ↓g_own_non, ↓g_own_bl, ↓g_own_int, ↓g_own_str, ↓g_own_tup, ↓g_own_lst, ↓g_own_ins, ↓g_eqi, ↓g_eqs, ↓g_nei, ↓g_nes, ↓p_bnd, ↓p_ret, ↓p_none, ↓p_fr, ↓p_and, ↓p_or, ↓p_not, ↓p_ifE, ↓p_bl, ↓p_nil, ↓p_cons, ↓p_tup, ↓p_lst, ↓p_drop, ↓p_rt, ↓p_mif, ↓p_for, ↓p_gNil, ↓p_gV, ↓p_gApp, ↓p_rV, ↓p_if, cs_un, cs_fr, List.length_cons, List.length_nil, List.length_map, Nat.zero_add, insD_i, decide_eq_true_eq, Bool.not_eq_true', Bool.not_true, Bool.not_false, decide_eq_false_iff_not, true_and, and_true, ne_eq, not_false_eq_true, List.lookup_cons, Nat.reduceAdd, isN_non, isN_bl, isN_int, isN_str, isN_tup, isN_lst, ↓reduceIte]
      exact loop l2 1 (p2.mono (by omega))
  · refine of_spec (by omega) ht (hg.take _) ?_
    simp (decide := true) only [rowO, c1, c2, List.append_nil, List.cons_append, List.nil_append, ↓k_some, ↓k_no, ↓k_ite, ↓getK_0, ↓getK_s, ↓setK_0, ↓setK_s, ↓ff_0, ↓ff_s, ↓ff_o, ↓fo_l, ↓fo_i, ↓fk_fr, ↓fk_ow, ↓vk_fr, ↓vk_ow, ↓vw_fr, ↓vw_l, ↓mv_fr, ↓mv_ow, ↓sq_nx, ↓sq_bk, ↓sq_ct, ↓sq_rt, ↓fi_rt, ↓fi_nx, ↓ou_0, ↓ou_fr, ↓ou_ow, ↓ou_un, ↓ou_of, ↓ou_on, ↓un_00, ↓un_0s, ↓un_s, ↓rk_fr, ↓rk_un, ↓rk_ow, ↓ak_l, ↓lk_l, ↓si_l, ↓ls_0, ↓ls_s, ↓gb_fr, ↓gb_ow, ↓rb_fr, ↓rb_ow, ↓to_0, ↓to_v, ↓to_b, ↓to_map, ↓to_mapn, ↓tb_fr, ↓tb_ow, ↓bk_0, ↓bk_v, ↓bk_bi, ↓ba_0, ↓ba_s, ↓bk_mapf, ↓bk_mapn, ↓bb_fr, ↓bb_ow, ↓ui_un, ↓set_tag, ↓set_tagf, ↓df_0, ↓sp_0, ↓sp_n, ↓sp_s, ↓fs_0, ↓fs_s, ↓fs_map, ↓ct_0, ↓ct_fr, ↓ct_un, ↓ct_ow, ↓ap_00, ↓ap_0s, ↓ap_s, ↓as_0, ↓as_s, ↓in_v, ↓in_b, ↓ib_fr, ↓ib_ow, ↓fl_v, ↓fr_fd, ↓fl_b, ↓fb_fr, ↓fb_ow, ↓get_look, ↓ln_i, ↓sf_fr, ↓sf_ow, ↓mk_r, ↓w_var, ↓w_view, ↓w_lift, ↓w_frz, ↓w_m1, ↓w_m2, ↓w_mV2, ↓w_m2V, ↓w_tst, ↓w_isN, ↓w_notN, ↓bv_bl, ↓w_andV, ↓w_orV, ↓nv_bl, ↓w_notV, ↓w_ch, ↓pt_i, ↓w_part, ↓w_sl, ↓w_slV, ↓w_cal, ↓w_lenV, ↓w_is, ↓w_isO, ↓w_put, ↓w_set, ↓w_move, ↓w_seq, ↓w_asg, ↓w_app, ↓w_setI, ↓w_items, ↓w_gB, ↓w_rB, ↓w_cl, ↓w_callA, ↓w_gStar, ↓w_fld, ↓get_d1, ↓w_mth, ↓w_mthS, ↓w_prp, ↓w_lenO, ↓w_own2, ↓w_ownB, ↓w_augO, ↓w_setF, ↓w_fn, ↓w_mk, ↓w_arg, ↓w_any, ↓w_kw, ↓selR, ↓selA, ↓sQ_0, ↓sQ_s, ↓st_nx, ↓st_ct, ↓st_bk, ↓st_rt, ↓w_lc, ↓g_ixt, ↓g_ixl, ↓g_ixs, ↓at_0, ↓at_1, ↓at_2, ↓at_3, ↓ix_0, ↓ix_1, ↓ix_2, ↓g_addi, ↓g_adds, ↓g_addt, ↓g_addl, ↓g_muli, ↓g_mult, ↓g_mull, ↓g_sub, ↓g_div, ↓g_mod, ↓g_pow, ↓g_bD, ↓g_lt, ↓g_le, ↓g_gt, ↓g_ge, ↓g_neg, ↓g_bl, ↓g_int, ↓g_lent, ↓g_lenl, ↓g_lens, ↓g_list, ↓g_lisl, ↓g_tupt, ↓g_tupl, ↓g_max, ↓g_min, ↓g_itt, ↓g_itl, ↓g_its, ↓g_slt, ↓g_sll, ↓g_sls, ↓g_rng1, ↓g_rng2, ↓g_enum, ↓g_nm, ↓g_tp, ↓g_gc, ↓g_gn, ↓g_isIntD_non, ↓g_isIntD_bl, ↓g_isIntD_int, ↓g_isIntD_str, ↓g_isIntD_tup, ↓g_isIntD_lst, ↓g_isBoolD_non, ↓g_isBoolD_bl, ↓g_isBoolD_int, ↓g_isBoolD_str, ↓g_isBoolD_tup, ↓g_isBoolD_lst, ↓g_isTupD_non, ↓g_isTupD_bl, ↓g_isTupD_int, ↓g_isTupD_str, ↓g_isTupD_tup, ↓g_isTupD_lst, ↓g_isStrD_non, ↓g_isStrD_bl, ↓g_isStrD_int, ↓g_isStrD_str, ↓g_isStrD_tup, ↓g_isStrD_lst, ↓g_own_non, ↓g_own_bl, ↓g_own_int, ↓g_own_str, ↓g_own_tup, ↓g_own_lst, ↓g_own_ins, ↓g_eqi, ↓g_eqs, ↓g_nei, ↓g_nes, ↓p_bnd, ↓p_ret, ↓p_none, ↓p_fr, ↓p_and, ↓p_or, ↓p_not, ↓p_ifE, ↓p_bl, ↓p_nil, ↓p_cons, ↓p_tup, ↓p_lst, ↓p_drop, ↓p_rt, ↓p_mif, ↓p_for, ↓p_gNil, ↓p_gV, ↓p_gApp, ↓p_rV, ↓p_if, cs_un, cs_fr, List.length_cons, List.length_nil, List.length_map, Nat.zero_add, insD_i, decide_eq_true_eq, Bool.not_eq_true', Bool.not_true, Bool.not_false, decide_eq_false_iff_not, true_and, and_true, ne_eq, not_false_eq_true, List.lookup_cons, Nat.reduceAdd, isN_non, isN_bl, isN_int, isN_str, isN_tup, isN_lst, ↓reduceIte]
    refine of_spec (by omega) ht (hg.drop _) ?_
    simp (decide := true) only [rowO, c1, c2, List.append_nil, List.cons_append, List.nil_append, ↓k_some, ↓k_no, ↓k_ite, ↓getK_0, ↓getK_s, ↓setK_0, ↓setK_s, ↓ff_0, ↓ff_s, ↓ff_o, ↓fo_l, ↓fo_i, ↓fk_fr, ↓fk_ow, ↓vk_fr, ↓vk_ow, ↓vw_fr, ↓vw_l, ↓mv_fr, ↓mv_ow, ↓sq_nx, ↓sq_bk, ↓sq_ct, ↓sq_rt, ↓fi_rt, ↓fi_nx, ↓ou_0, ↓ou_fr, ↓ou_ow, ↓ou_un, ↓ou_of, ↓ou_on, ↓un_00, ↓un_0s, ↓un_s, ↓rk_fr, ↓rk_un, ↓rk_ow, ↓ak_l, ↓lk_l, ↓si_l, ↓ls_0, ↓ls_s, ↓gb_fr, ↓gb_ow, ↓rb_fr, ↓rb_ow, ↓to_0, ↓to_v, ↓to_b, ↓to_map, ↓to_mapn, ↓tb_fr, ↓tb_ow, ↓bk_0, ↓bk_v, ↓bk_bi, ↓ba_0, ↓ba_s, ↓bk_mapf, ↓bk_mapn, ↓bb_fr, ↓bb_ow, ↓ui_un, ↓set_tag, ↓set_tagf, ↓df_0, ↓sp_0, ↓sp_n, ↓sp_s, ↓fs_0, ↓fs_s, ↓fs_map, ↓ct_0, ↓ct_fr, ↓ct_un, ↓ct_ow, ↓ap_00, ↓ap_0s, ↓ap_s, ↓as_0, ↓as_s, ↓in_v, ↓in_b, ↓ib_fr, ↓ib_ow, ↓fl_v, ↓fr_fd, ↓fl_b, ↓fb_fr, ↓fb_ow, ↓get_look, ↓ln_i, ↓sf_fr, ↓sf_ow, ↓mk_r, ↓w_var, ↓w_view, ↓w_lift, ↓w_frz, ↓w_m1, ↓w_m2, ↓w_mV2, ↓w_m2V, ↓w_tst, ↓w_isN, ↓w_notN, ↓bv_bl, ↓w_andV, ↓w_orV, ↓nv_bl, ↓w_notV, ↓w_ch, ↓pt_i, ↓w_part, ↓w_sl, ↓w_slV, ↓w_cal, ↓w_lenV, ↓w_is, ↓w_isO, ↓w_put, ↓w_set, ↓w_move, ↓w_seq, ↓w_asg, ↓w_app, ↓w_setI, ↓w_items, ↓w_gB, ↓w_rB, ↓w_cl, ↓w_callA, ↓w_gStar, ↓w_fld, ↓get_d1, ↓w_mth, ↓w_mthS, ↓w_prp, ↓w_lenO, ↓w_own2, ↓w_ownB, ↓w_augO, ↓w_setF, ↓w_fn, ↓w_mk, ↓w_arg, ↓w_any, ↓w_kw, ↓selR, ↓selA, ↓sQ_0, ↓sQ_s, ↓st_nx, ↓st_ct, ↓st_bk, ↓st_rt, ↓w_lc, ↓g_ixt, ↓g_ixl, ↓g_ixs, ↓at_0, ↓at_1, ↓at_2, ↓at_3, ↓ix_0, ↓ix_1, ↓ix_2, ↓g_addi, ↓g_adds, ↓g_addt, ↓g_addl, ↓g_muli, ↓g_mult, ↓g_mull, ↓g_sub, ↓g_div, ↓g_mod, ↓g_pow, ↓g_bD, ↓g_lt, ↓g_le, ↓g_gt, ↓g_ge, ↓g_neg, ↓g_bl, ↓g_int, ↓g_lent, ↓g_lenl, ↓g_lens, ↓g_list, ↓g_lisl, ↓g_tupt, ↓g_tupl, ↓g_max, ↓g_min, ↓g_itt, ↓g_itl, ↓g_its, ↓g_slt, ↓g_sll, ↓g_sls, ↓g_rng1, ↓g_rng2, ↓g_enum, ↓g_nm, ↓g_tp, ↓g_gc, ↓g_gn, ↓g_isIntD_non, ↓g_isIntD_bl, ↓g_isIntD_int, ↓g_isIntD_str, ↓g_isIntD_tup, ↓g_isIntD_lst, ↓g_isBoolD_non, ↓g_isBoolD_bl, ↓g_isBoolD_int, ↓g_isBoolD_str, ↓g_isBoolD_tup, ↓g_isBoolD_lst, ↓g_isTupD_non, ↓g_isTupD_bl, ↓g_isTupD_int, ↓g_isTupD_str, ↓g_isTupD_tup, ↓g_isTupD_lst, ↓g_isStrD_non, ↓g_isStrD_bl, ↓g_isStrD_int, ↓g_isStrD_str, ↓g_isStrD_tup, ↓g_isStrD_lst, ↓g_own_non, ↓g_own_bl, ↓g_own_int, ↓g_own_str, ↓g_own_tup, ↓g_own_lst, ↓g_own_ins, ↓g_eqi, ↓g_eqs, ↓g_nei, ↓g_nes, ↓p_bnd, ↓p_ret, ↓p_none, ↓p_fr, ↓p_and, ↓p_or, ↓p_not, ↓p_ifE, ↓p_bl, ↓p_nil, ↓p_cons, ↓p_tup, ↓p_lst, ↓p_drop, ↓p_rt, ↓p_mif, ↓p_for, ↓p_gNil, ↓p_gV, ↓p_gApp, ↓p_rV, ↓p_if, cs_un, cs_fr, List.length_cons, List.length_nil, List.length_map, Nat.zero_add, insD_i, decide_eq_true_eq, Bool.not_eq_true', Bool.not_true, Bool.not_false, decide_eq_false_iff_not, true_and, and_true, ne_eq, not_false_eq_true, List.lookup_cons, Nat.reduceAdd, isN_non, isN_bl, isN_int, isN_str, isN_tup, isN_lst, ↓reduceIte]
    refine ⟨by rfl, add_spec ht (.inl rfl) (hg.take _) len1 (hg.drop _) len2 ?_⟩
    rw [all]
    simp (decide := true) only [rowO, c1, c2, List.append_nil, List.cons_append, List.nil_append, ↓k_some, ↓k_no, ↓k_ite, ↓getK_0, ↓getK_s, ↓setK_0, ↓setK_s, ↓ff_0, ↓ff_s, ↓ff_o, ↓fo_l, ↓fo_i, ↓fk_fr, ↓fk_ow, ↓vk_fr, ↓vk_ow, ↓vw_fr, ↓vw_l, ↓mv_fr, ↓mv_ow, ↓sq_nx, ↓sq_bk, ↓sq_ct, ↓sq_rt, ↓fi_rt, ↓fi_nx, ↓ou_0, ↓ou_fr, ↓ou_ow, ↓ou_un, ↓ou_of, ↓ou_on, ↓un_00, ↓un_0s, ↓un_s, ↓rk_fr, ↓rk_un, ↓rk_ow, ↓ak_l, ↓lk_l, ↓si_l, ↓ls_0, ↓ls_s, ↓gb_fr, ↓gb_ow, ↓rb_fr, ↓rb_ow, ↓to_0, ↓to_v, ↓to_b, ↓to_map, ↓to_mapn, ↓tb_fr, ↓tb_ow, ↓bk_0, ↓bk_v, ↓bk_bi, ↓ba_0, ↓ba_s, ↓bk_mapf, ↓bk_mapn, ↓bb_fr, ↓bb_ow, ↓ui_un, ↓set_tag, ↓set_tagf, ↓df_0, ↓sp_0, ↓sp_n, ↓sp_s, ↓fs_0, ↓fs_s, ↓fs_map, ↓ct_0, ↓ct_fr, ↓ct_un, ↓ct_ow, ↓ap_00, ↓ap_0s, ↓ap_s, ↓as_0, ↓as_s, ↓in_v, ↓in_b, ↓ib_fr, ↓ib_ow, ↓fl_v, ↓fr_fd, ↓fl_b, ↓fb_fr, ↓fb_ow, ↓get_look, ↓ln_i, ↓sf_fr, ↓sf_ow, ↓mk_r, ↓w_var, ↓w_view, ↓w_lift, ↓w_frz, ↓w_m1, ↓w_m2, ↓w_mV2, ↓w_m2V, ↓w_tst, ↓w_isN, ↓w_notN, ↓bv_bl, ↓w_andV, ↓w_orV, ↓nv_bl, ↓w_notV, ↓w_ch, ↓pt_i, ↓w_part, ↓w_sl, ↓w_slV, ↓w_cal, ↓w_lenV, ↓w_is, ↓w_isO, ↓w_put, ↓w_set, ↓w_move, ↓w_seq, ↓w_asg, ↓w_app, ↓w_setI, ↓w_items, ↓w_gB, ↓w_rB, ↓w_cl, ↓w_callA, ↓w_gStar, ↓w_fld, ↓get_d1, ↓w_mth, ↓w_mthS, ↓w_prp, ↓w_lenO, ↓w_own2, ↓w_ownB, ↓w_augO, ↓w_setF, ↓w_fn, ↓w_mk, ↓w_arg, ↓w_any, ↓w_kw, ↓selR, ↓selA, ↓sQ_0, ↓sQ_s, ↓st_nx, ↓st_ct, ↓st_bk, ↓st_rt, ↓w_lc, ↓g_ixt, ↓g_ixl, ↓g_ixs, ↓at_0, ↓at_1, ↓at_2, ↓at_3, ↓ix_0, ↓ix_1, ↓ix_2, ↓g_addi, ↓g_adds, ↓g_addt, ↓g_addl, ↓g_muli, ↓g_mult, ↓g_mull, ↓g_sub, ↓g_div, ↓g_mod, ↓g_pow, ↓g_bD, ↓g_lt, ↓g_le, ↓g_gt, ↓g_ge, ↓g_neg, ↓g_bl, ↓g_int, ↓g_lent, ↓g_lenl, ↓g_lens, ↓g_list, ↓g_lisl, ↓g_tupt, ↓g_tupl, ↓g_max, ↓g_min, ↓g_itt, ↓g_itl, ↓g_its, ↓g_slt, ↓g_sll, ↓g_sls, ↓g_rng1, ↓g_rng2, ↓g_enum, ↓g_nm, ↓g_tp, ↓g_gc, ↓g_gn, ↓g_isIntD_non, ↓g_isIntD_bl, ↓g_isIntD_int, ↓g_isIntD_str, ↓g_isIntD_tup, ↓g_isIntD_lst, ↓g_isBoolD_non, ↓g_isBoolD_bl, ↓g_isBoolD_int, ↓g_isBoolD_str, ↓g_isBoolD_tup, ↓g_isBoolD_lst, ↓g_isTupD_non, ↓g_isTupD_bl, ↓g_isTupD_int, ↓g_isTupD_str, ↓g_isTupD_tup, ↓g_isTupD_lst, ↓g_isStrD_non, ↓g_isStrD_bl, ↓g_isStrD_int, ↓g_isStrD_str, ↓g_isStrD_tup, ↓g_isStrD_lst, ↓g_own_non, ↓g_own_bl, ↓g_own_int, ↓g_own_str, ↓g_own_tup, ↓g_own_lst, ↓g_own_ins, ↓g_eqi, ↓g_eqs, ↓g_nei, ↓g_nes, ↓p_bnd, ↓p_ret, ↓p_none, ↓p_fr, ↓p_and, ↓p_or, ↓p_not, ↓p_ifE, ↓p_bl, ↓p_nil, ↓p_cons, ↓p_tup, ↓p_lst, ↓p_drop, ↓p_rt, ↓p_mif, ↓p_for, ↓p_gNil, ↓p_gV, ↓p_gApp, ↓p_rV, ↓p_if, cs_un, cs_fr, List.length_cons, List.length_nil, List.length_map, Nat.zero_add, insD_i, decide_eq_true_eq, Bool.not_eq_true', Bool.not_true, Bool.not_false, decide_eq_false_iff_not, true_and, and_true, ne_eq, not_false_eq_true, List.lookup_cons, Nat.reduceAdd, isN_non, isN_bl, isN_int, isN_str, isN_tup, isN_lst, ↓reduceIte]
    exact h _ (p2.mono (by omega))
  · refine of_spec (by omega) ht (hg.take _) ?_
    simp (decide := true) only [rowO, c1, c2, List.append_nil, List.cons_append, List.nil_append, ↓k_some, ↓k_no, ↓k_ite, ↓getK_0, ↓getK_s, ↓setK_0, ↓setK_s, ↓ff_0, ↓ff_s, ↓ff_o, ↓fo_l, ↓fo_i, ↓fk_fr, ↓fk_ow, ↓vk_fr, ↓vk_ow, ↓vw_fr, ↓vw_l, ↓mv_fr, ↓mv_ow, ↓sq_nx, ↓sq_bk, ↓sq_ct, ↓sq_rt, ↓fi_rt, ↓fi_nx, ↓ou_0, ↓ou_fr, ↓ou_ow, ↓ou_un, ↓ou_of, ↓ou_on, ↓un_00, ↓un_0s, ↓un_s, ↓rk_fr, ↓rk_un, ↓rk_ow, ↓ak_l, ↓lk_l, ↓si_l, ↓ls_0, ↓ls_s, ↓gb_fr, ↓gb_ow, ↓rb_fr, ↓rb_ow, ↓to_0, ↓to_v, ↓to_b, ↓to_map, ↓to_mapn, ↓tb_fr, ↓tb_ow, ↓bk_0, ↓bk_v, ↓bk_bi, ↓ba_0, ↓ba_s, ↓bk_mapf, ↓bk_mapn, ↓bb_fr, ↓bb_ow, ↓ui_un, ↓set_tag, ↓set_tagf, ↓df_0, ↓sp_0, ↓sp_n, ↓sp_s, ↓fs_0, ↓fs_s, ↓fs_map, ↓ct_0, ↓ct_fr, ↓ct_un, ↓ct_ow, ↓ap_00, ↓ap_0s, ↓ap_s, ↓as_0, ↓as_s, ↓in_v, ↓in_b, ↓ib_fr, ↓ib_ow, ↓fl_v, ↓fr_fd, ↓fl_b, ↓fb_fr, ↓fb_ow, ↓get_look, ↓ln_i, ↓sf_fr, ↓sf_ow, ↓mk_r, ↓w_var, ↓w_view, ↓w_lift, ↓w_frz, ↓w_m1, ↓w_m2, ↓w_mV2, ↓w_m2V, ↓w_tst, ↓w_isN, ↓w_notN, ↓bv_bl, ↓w_andV, ↓w_orV, ↓nv_bl, ↓w_notV, ↓w_ch, ↓pt_i, ↓w_part, ↓w_sl, ↓w_slV, ↓w_cal, ↓w_lenV, ↓w_is, ↓w_isO, ↓w_put, ↓w_set, ↓w_move, ↓w_seq, ↓w_asg, ↓w_app, ↓w_setI, ↓w_items, ↓w_gB, ↓w_rB, ↓w_cl, ↓w_callA, ↓w_gStar, ↓w_fld, ↓get_d1, ↓w_mth, ↓w_mthS, ↓w_prp, ↓w_lenO, ↓w_own2, ↓w_ownB, ↓w_augO, ↓w_setF, ↓w_fn, ↓w_mk, ↓w_arg, ↓w_any, ↓w_kw, ↓selR, ↓selA, ↓sQ_0, ↓sQ_s, ↓st_nx, ↓st_ct, ↓st_bk, ↓st_rt, ↓w_lc, ↓g_ixt, ↓g_ixl, ↓g_ixs, ↓at_0, ↓at_1, ↓at_2, ↓at_3, ↓ix_0, ↓ix_1, ↓ix_2, ↓g_addi, ↓g_adds, ↓g_addt, ↓g_addl, ↓g_muli, ↓g_mult, ↓g_mull, ↓g_sub, ↓g_div, ↓g_mod, ↓g_pow, ↓g_bD, ↓g_lt, ↓g_le, ↓g_gt, ↓g_ge, ↓g_neg, ↓g_bl, ↓g_int, ↓g_lent, ↓g_lenl, ↓g_lens, ↓g_list, ↓g_lisl, ↓g_tupt, ↓g_tupl, ↓g_max, ↓g_min, ↓g_itt, ↓g_itl, ↓g_its, ↓g_slt, ↓g_sll, ↓g_sls, ↓g_rng1, ↓g_rng2, ↓g_enum, ↓g_nm, ↓g_tp, ↓g_gc, ↓g_gn, ↓g_isIntD_non, ↓g_isIntD_bl, ↓g_isIntD_int, ↓g_isIntD_str, ↓g_isIntD_tup, ↓g_isIntD_lst, ↓g_isBoolD_non, ↓g_isBoolD_bl, ↓g_isBoolD_int, ↓g_isBoolD_str, ↓g_isBoolD_tup, ↓g_isBoolD_lst, ↓g_isTupD_non, ↓g_isTupD_bl, ↓g_isTupD_int, ↓g_isTupD_str, ↓g_isTupD_tup, ↓g_isTupD_lst, ↓g_isStrD_non, ↓g_isStrD_bl, ↓g_isStrD_int, ↓g_isStrD_str, ↓g_isStrD_tup, ↓g_isStrD_lst, ↓g_own_non, ↓g_own_bl, ↓g_own_int, ↓g_own_str, ↓g_own_tup, ↓g_own_lst, ↓g_own_ins, ↓g_eqi, ↓g_eqs, ↓g_nei, ↓g_nes, ↓p_bnd, ↓p_ret, ↓p_none, ↓p_fr, ↓p_and, ↓p_or, ↓p_not, ↓p_ifE, ↓p_bl, ↓p_nil, ↓p_cons, ↓p_tup, ↓p_lst, ↓p_drop, ↓p_rt, ↓p_mif, ↓p_for, ↓p_gNil, ↓p_gV, ↓p_gApp, ↓p_rV, ↓p_if, cs_un, cs_fr, List.length_cons, List.length_nil, List.length_map, Nat.zero_add, insD_i, decide_eq_true_eq, Bool.not_eq_true', Bool.not_true, Bool.not_false, decide_eq_false_iff_not, true_and, and_true, ne_eq, not_false_eq_true, List.lookup_cons, Nat.reduceAdd, isN_non, isN_bl, isN_int, isN_str, isN_tup, isN_lst, ↓reduceIte]
    refine of_spec (by omega) ht (hg.drop _) ?_
    simp (decide := true) only [rowO, c1, c2, List.append_nil, List.cons_append, List.nil_append, ↓k_some, ↓k_no, ↓k_ite, ↓getK_0, ↓getK_s, ↓setK_0, ↓setK_s, ↓ff_0, ↓ff_s, ↓ff_o, ↓fo_l, ↓fo_i, ↓fk_fr, ↓fk_ow, ↓vk_fr, ↓vk_ow, ↓vw_fr, ↓vw_l, ↓mv_fr, ↓mv_ow, ↓sq_nx, ↓sq_bk, ↓sq_ct, ↓sq_rt, ↓fi_rt, ↓fi_nx, ↓ou_0, ↓ou_fr, ↓ou_ow, ↓ou_un, ↓ou_of, ↓ou_on, ↓un_00, ↓un_0s, ↓un_s, ↓rk_fr, ↓rk_un, ↓rk_ow, ↓ak_l, ↓lk_l, ↓si_l, ↓ls_0, ↓ls_s, ↓gb_fr, ↓gb_ow, ↓rb_fr, ↓rb_ow, ↓to_0, ↓to_v, ↓to_b, ↓to_map, ↓to_mapn, ↓tb_fr, ↓tb_ow, ↓bk_0, ↓bk_v, ↓bk_bi, ↓ba_0, ↓ba_s, ↓bk_mapf, ↓bk_mapn, ↓bb_fr, ↓bb_ow, ↓ui_un, ↓set_tag, ↓set_tagf, ↓df_0, ↓sp_0, ↓sp_n, ↓sp_s, ↓fs_0, ↓fs_s, ↓fs_map, ↓ct_0, ↓ct_fr, ↓ct_un, ↓ct_ow, ↓ap_00, ↓ap_0s, ↓ap_s, ↓as_0, ↓as_s, ↓in_v, ↓in_b, ↓ib_fr, ↓ib_ow, ↓fl_v, ↓fr_fd, ↓fl_b, ↓fb_fr, ↓fb_ow, ↓get_look, ↓ln_i, ↓sf_fr, ↓sf_ow, ↓mk_r, ↓w_var, ↓w_view, ↓w_lift, ↓w_frz, ↓w_m1, ↓w_m2, ↓w_mV2, ↓w_m2V, ↓w_tst, ↓w_isN, ↓w_notN, ↓bv_bl, ↓w_andV, ↓w_orV, ↓nv_bl, ↓w_notV, ↓w_ch, ↓pt_i, ↓w_part, ↓w_sl, ↓w_slV, ↓w_cal, ↓w_lenV, ↓w_is, ↓w_isO, ↓w_put, ↓w_set, ↓w_move, ↓w_seq, ↓w_asg, ↓w_app, ↓w_setI, ↓w_items, ↓w_gB, ↓w_rB, ↓w_cl, ↓w_callA, ↓w_gStar, ↓w_fld, ↓get_d1, ↓w_mth, ↓w_mthS, ↓w_prp, ↓w_lenO, ↓w_own2, ↓w_ownB, ↓w_augO, ↓w_setF, ↓w_fn, ↓w_mk, ↓w_arg, ↓w_any, ↓w_kw, ↓selR, ↓selA, ↓sQ_0, ↓sQ_s, ↓st_nx, ↓st_ct, ↓st_bk, ↓st_rt, ↓w_lc, ↓g_ixt, ↓g_ixl, ↓g_ixs, ↓at_0, ↓at_1, ↓at_2, ↓at_3, ↓ix_0, ↓ix_1, ↓ix_2, ↓g_addi, ↓g_adds, ↓g_addt, ↓g_addl, ↓g_muli, ↓g_mult, ↓g_mull, ↓g_sub, ↓g_div, ↓g_mod, ↓g_pow, ↓g_bD, ↓g_lt, ↓g_le, ↓g_gt, ↓g_ge, ↓g_neg, ↓g_bl, ↓g_int, ↓g_lent, ↓g_lenl, ↓g_lens, ↓g_list, ↓g_lisl, ↓g_tupt, ↓g_tupl, ↓g_max, ↓g_min, ↓g_itt, ↓g_itl, ↓g_its, ↓g_slt, ↓g_sll, ↓g_sls, ↓g_rng1, ↓g_rng2, ↓g_enum, ↓g_nm, ↓g_tp, ↓g_gc, ↓g_gn, ↓g_isIntD_non, ↓g_isIntD_bl, ↓g_isIntD_int, ↓g_isIntD_str, ↓g_isIntD_tup, ↓g_isIntD_lst, ↓g_isBoolD_non, ↓g_isBoolD_bl, ↓g_isBoolD_int, ↓g_isBoolD_str, ↓g_isBoolD_tup, ↓g_isBoolD_lst, ↓g_isTupD_non, ↓g_isTupD_bl, ↓g_isTupD_int, ↓g_isTupD_str, ↓g_isTupD_tup, ↓g_isTupD_lst, ↓g_isStrD_non, ↓g_isStrD_bl, ↓g_isStrD_int, ↓g_isStrD_str, ↓g_isStrD_tup, ↓g_isStrD_lst, ↓g_own_non, ↓g_own_bl, ↓g_own_int, ↓g_own_str, ↓g_own_tup, ↓g_own_lst, ↓g_own_ins, ↓g_eqi, ↓g_eqs, ↓g_nei, ↓g_nes, ↓p_bnd, ↓p_ret, ↓p_none, ↓p_fr, ↓p_and, ↓p_or, ↓p_not, ↓p_ifE, ↓p_bl, ↓p_nil, ↓p_cons, ↓p_tup, ↓p_lst, ↓p_drop, ↓p_rt, ↓p_mif, ↓p_for, ↓p_gNil, ↓p_gV, ↓p_gApp, ↓p_rV, ↓p_if, cs_un, cs_fr, List.length_cons, List.length_nil, List.length_map, Nat.zero_add, insD_i, decide_eq_true_eq, Bool.not_eq_true', Bool.not_true, Bool.not_false, decide_eq_false_iff_not, true_and, and_true, ne_eq, not_false_eq_true, List.lookup_cons, Nat.reduceAdd, isN_non, isN_bl, isN_int, isN_str, isN_tup, isN_lst, ↓reduceIte]
    refine ⟨by rfl, add_spec ht (.inr rfl) (hg.take _) len1 (hg.drop _) len2 ?_⟩
    rw [all]
    simp (decide := true) only [rowO, c1, c2, List.append_nil, List.cons_append, List.nil_append, ↓k_some, ↓k_no, ↓k_ite, ↓getK_0, ↓getK_s, ↓setK_0, ↓setK_s, ↓ff_0, ↓ff_s, ↓ff_o, ↓fo_l, ↓fo_i, ↓fk_fr, ↓fk_ow, ↓vk_fr, ↓vk_ow, ↓vw_fr, ↓vw_l, ↓mv_fr, ↓mv_ow, ↓sq_nx, ↓sq_bk, ↓sq_ct, ↓sq_rt, ↓fi_rt, ↓fi_nx, ↓ou_0, ↓ou_fr, ↓ou_ow, ↓ou_un, ↓ou_of, ↓ou_on, ↓un_00, ↓un_0s, ↓un_s, ↓rk_fr, ↓rk_un, ↓rk_ow, ↓ak_l, ↓lk_l, ↓si_l, ↓ls_0, ↓ls_s, ↓gb_fr, ↓gb_ow, ↓rb_fr, ↓rb_ow, ↓to_0, ↓to_v, ↓to_b, ↓to_map, ↓to_mapn, ↓tb_fr, ↓tb_ow, ↓bk_0, ↓bk_v, ↓bk_bi, ↓ba_0, ↓ba_s, ↓bk_mapf, ↓bk_mapn, ↓bb_fr, ↓bb_ow, ↓ui_un, ↓set_tag, ↓set_tagf, ↓df_0, ↓sp_0, ↓sp_n, ↓sp_s, ↓fs_0, ↓fs_s, ↓fs_map, ↓ct_0, ↓ct_fr, ↓ct_un, ↓ct_ow, ↓ap_00, ↓ap_0s, ↓ap_s, ↓as_0, ↓as_s, ↓in_v, ↓in_b, ↓ib_fr, ↓ib_ow, ↓fl_v, ↓fr_fd, ↓fl_b, ↓fb_fr, ↓fb_ow, ↓get_look, ↓ln_i, ↓sf_fr, ↓sf_ow, ↓mk_r, ↓w_var, ↓w_view, ↓w_lift, ↓w_frz, ↓w_m1, ↓w_m2, ↓w_mV2, ↓w_m2V, ↓w_tst, ↓w_isN, ↓w_notN, ↓bv_bl, ↓w_andV, ↓w_orV, ↓nv_bl, ↓w_notV, ↓w_ch, ↓pt_i, ↓w_part, ↓w_sl, ↓w_slV, ↓w_cal, ↓w_lenV, ↓w_is, ↓w_isO, ↓w_put, ↓w_set, ↓w_move, ↓w_seq, ↓w_asg, ↓w_app, ↓w_setI, ↓w_items, ↓w_gB, ↓w_rB, ↓w_cl, ↓w_callA, ↓w_gStar, ↓w_fld, ↓get_d1, ↓w_mth, ↓w_mthS, ↓w_prp, ↓w_lenO, ↓w_own2, ↓w_ownB, ↓w_augO, ↓w_setF, ↓w_fn, ↓w_mk, ↓w_arg, ↓w_any, ↓w_kw, ↓selR, ↓selA, ↓sQ_0, ↓sQ_s, ↓st_nx, ↓st_ct, ↓st_bk, ↓st_rt, ↓w_lc, ↓g_ixt, ↓g_ixl, ↓g_ixs, ↓at_0, ↓at_1, ↓at_2, ↓at_3, ↓ix_0, ↓ix_1, ↓ix_2, ↓g_addi, ↓g_adds, ↓g_addt, ↓g_addl, ↓g_muli, ↓g_mult, ↓g_mull, ↓g_sub, ↓g_div, ↓g_mod, ↓g_pow, ↓g_bD, ↓g_lt, ↓g_le, ↓g_gt, ↓g_ge, ↓g_neg, ↓g_bl, ↓g_int, ↓g_lent, ↓g_lenl, ↓g_lens, ↓g_list, ↓g_lisl, ↓g_tupt, ↓g_tupl, ↓g_max, ↓g_min, ↓g_itt, ↓g_itl, ↓g_its, ↓g_slt, ↓g_sll, ↓g_sls, ↓g_rng1, ↓g_rng2, ↓g_enum, ↓g_nm, ↓g_tp, ↓g_gc, ↓g_gn, ↓g_isIntD_non, ↓g_isIntD_bl, ↓g_isIntD_int, ↓g_isIntD_str, ↓g_isIntD_tup, ↓g_isIntD_lst, ↓g_isBoolD_non, ↓g_isBoolD_bl, ↓g_isBoolD_int, ↓g_isBoolD_str, ↓g_isBoolD_tup, ↓g_isBoolD_lst, ↓g_isTupD_non, ↓g_isTupD_bl, ↓g_isTupD_int, ↓g_isTupD_str, ↓g_isTupD_tup, ↓g_isTupD_lst, ↓g_isStrD_non, ↓g_isStrD_bl, ↓g_isStrD_int, ↓g_isStrD_str, ↓g_isStrD_tup, ↓g_isStrD_lst, ↓g_own_non, ↓g_own_bl, ↓g_own_int, ↓g_own_str, ↓g_own_tup, ↓g_own_lst, ↓g_own_ins, ↓g_eqi, ↓g_eqs, ↓g_nei, ↓g_nes, ↓p_bnd, ↓p_ret, ↓p_none, ↓p_fr, ↓p_and, ↓p_or, ↓p_not, ↓p_ifE, ↓p_bl, ↓p_nil, ↓p_cons, ↓p_tup, ↓p_lst, ↓p_drop, ↓p_rt, ↓p_mif, ↓p_for, ↓p_gNil, ↓p_gV, ↓p_gApp, ↓p_rV, ↓p_if, cs_un, cs_fr, List.length_cons, List.length_nil, List.length_map, Nat.zero_add, insD_i, decide_eq_true_eq, Bool.not_eq_true', Bool.not_true, Bool.not_false, decide_eq_false_iff_not, true_and, and_true, ne_eq, not_false_eq_true, List.lookup_cons, Nat.reduceAdd, isN_non, isN_bl, isN_int, isN_str, isN_tup, isN_lst, ↓reduceIte]
    exact h _ (p2.mono (by omega))
  · refine of_spec (by omega) ht (hg.take _) ?_
    simp (decide := true) only [rowO, c1, c2, List.append_nil, List.cons_append, List.nil_append, ↓k_some, ↓k_no, ↓k_ite, ↓getK_0, ↓getK_s, ↓setK_0, ↓setK_s, ↓ff_0, ↓ff_s, ↓ff_o, ↓fo_l, ↓fo_i, ↓fk_fr, ↓fk_ow, ↓vk_fr, ↓vk_ow, ↓vw_fr, ↓vw_l, ↓mv_fr, ↓mv_ow, ↓sq_nx, ↓sq_bk, ↓sq_ct, ↓sq_rt, ↓fi_rt, ↓fi_nx, ↓ou_0, ↓ou_fr, ↓ou_ow, ↓ou_un, ↓ou_of, ↓ou_on, ↓un_00, ↓un_0s, ↓un_s, ↓rk_fr, ↓rk_un, ↓rk_ow, ↓ak_l, ↓lk_l, ↓si_l, ↓ls_0, ↓ls_s, ↓gb_fr, ↓gb_ow, ↓rb_fr, ↓rb_ow, ↓to_0, ↓to_v, ↓to_b, ↓to_map, ↓to_mapn, ↓tb_fr, ↓tb_ow, ↓bk_0, ↓bk_v, ↓bk_bi, ↓ba_0, ↓ba_s, ↓bk_mapf, ↓bk_mapn, ↓bb_fr, ↓bb_ow, ↓ui_un, ↓set_tag, ↓set_tagf, ↓df_0, ↓sp_0, ↓sp_n, ↓sp_s, ↓fs_0, ↓fs_s, ↓fs_map, ↓ct_0, ↓ct_fr, ↓ct_un, ↓ct_ow, ↓ap_00, ↓ap_0s, ↓ap_s, ↓as_0, ↓as_s, ↓in_v, ↓in_b, ↓ib_fr, ↓ib_ow, ↓fl_v, ↓fr_fd, ↓fl_b, ↓fb_fr, ↓fb_ow, ↓get_look, ↓ln_i, ↓sf_fr, ↓sf_ow, ↓mk_r, ↓w_var, ↓w_view, ↓w_lift, ↓w_frz, ↓w_m1, ↓w_m2, ↓w_mV2, ↓w_m2V, ↓w_tst, ↓w_isN, ↓w_notN, ↓bv_bl, ↓w_andV, ↓w_orV, ↓nv_bl, ↓w_notV, ↓w_ch, ↓pt_i, ↓w_part, ↓w_sl, ↓w_slV, ↓w_cal, ↓w_lenV, ↓w_is, ↓w_isO, ↓w_put, ↓w_set, ↓w_move, ↓w_seq, ↓w_asg, ↓w_app, ↓w_setI, ↓w_items, ↓w_gB, ↓w_rB, ↓w_cl, ↓w_callA, ↓w_gStar, ↓w_fld, ↓get_d1, ↓w_mth, ↓w_mthS, ↓w_prp, ↓w_lenO, ↓w_own2, ↓w_ownB, ↓w_augO, ↓w_setF, ↓w_fn, ↓w_mk, ↓w_arg, ↓w_any, ↓w_kw, ↓selR, ↓selA, ↓sQ_0, ↓sQ_s, ↓st_nx, ↓st_ct, ↓st_bk, ↓st_rt, ↓w_lc, ↓g_ixt, ↓g_ixl, ↓g_ixs, ↓at_0, ↓at_1, ↓at_2, ↓at_3, ↓ix_0, ↓ix_1, ↓ix_2, ↓g_addi, ↓g_adds, ↓g_addt, ↓g_addl, ↓g_muli, ↓g_mult, ↓g_mull, ↓g_sub, ↓g_div, ↓g_mod, ↓g_pow, ↓g_bD, ↓g_lt, ↓g_le, ↓g_gt, ↓g_ge, ↓g_neg, ↓g_bl, ↓g_int, ↓g_lent, ↓g_lenl, ↓g_lens, ↓g_list, ↓g_lisl, ↓g_tupt, ↓g_tupl, ↓g_max, ↓g_min, ↓g_itt, ↓g_itl, ↓g_its, ↓g_slt, ↓g_sll, ↓g_sls, ↓g_rng1, ↓g_rng2, ↓g_enum, ↓g_nm, ↓g_tp, ↓g_gc, ↓g_gn, ↓g_isIntD_non, ↓g_isIntD_bl, ↓g_isIntD_int, ↓g_isIntD_str, ↓g_isIntD_tup, ↓g_isIntD_lst, ↓g_isBoolD_non, ↓g_isBoolD_bl, ↓g_isBoolD_int, ↓g_isBoolD_str, ↓g_isBoolD_tup, ↓g_isBoolD_lst, ↓g_isTupD_non, ↓g_isTupD_bl, ↓g_isTupD_int, ↓g_isTupD_str, ↓g_isTupD_tup, ↓g_isTupD_lst, ↓g_isStrD_non, ↓g_isStrD_bl, ↓g_isStrD_int, ↓g_isStrD_str, ↓g_isStrD_tup, ↓g_isStrD_lst, ↓g_own_non, ↓g_own_bl, ↓g_own_int, ↓g_own_str, ↓g_own_tup, ↓g_own_lst, ↓g_own_ins, ↓g_eqi, ↓g_eqs, ↓g_nei, ↓g_nes, ↓p_bnd, ↓p_ret, ↓p_none, ↓p_fr, ↓p_and, ↓p_or, ↓p_not, ↓p_ifE, ↓p_bl, ↓p_nil, ↓p_cons, ↓p_tup, ↓p_lst, ↓p_drop, ↓p_rt, ↓p_mif, ↓p_for, ↓p_gNil, ↓p_gV, ↓p_gApp, ↓p_rV, ↓p_if, cs_un, cs_fr, List.length_cons, List.length_nil, List.length_map, Nat.zero_add, insD_i, decide_eq_true_eq, Bool.not_eq_true', Bool.not_true, Bool.not_false, decide_eq_false_iff_not, true_and, and_true, ne_eq, not_false_eq_true, List.lookup_cons, Nat.reduceAdd, isN_non, isN_bl, isN_int, isN_str, isN_tup, isN_lst, ↓reduceIte]
    exact loop l2 4 (p2.mono (by omega))

end Law
end
section
set_option exponentiation.threshold 2000
namespace Law
open PySem PySem.Spec PyProof.Rows L2 L3
variable {Z : Cs}
theorem grown_spec {t ds es : List D} {g : D} {Q : Sl → List Sl → Prop} (ht : IsTree t) (hg : Gates t.length ds) (hl : ds.length ≤ 8) (hg2 : Gates t.length es) (hl2 : es.length ≤ 8) (hd : Gate t.length g)
    (h : ∀ s, Q (.fr (.bl true)) [s, .fr (rowD Z t es), .fr (.tup t), .fr (.tup ds), .fr (.tup es), .fr g]) :
    PostF (f_l_grown Z) [.fr (rowD Z t ds), .fr (rowD Z t es), .fr (.tup t), .fr (.tup ds), .fr (.tup es), .fr g] Q := by
  have hh : Gates t.length (ds ++ es) := fun d hd => (List.mem_append.mp hd).elim (hg d) (hg2 d)
  have h1 : Gates t.length (ds ++ [g]) := fun d hd' => (List.mem_append.mp hd').elim (hg d) fun e => by rw [List.mem_singleton.mp e]; exact hd
  have h3 : Gates t.length ((ds ++ es) ++ ds) := fun d hd => (List.mem_append.mp hd).elim (hh d) (hg d)
  have le1 : ds.length + es.length ≤ sizeLine := Nat.le_trans (by omega : ds.length + es.length ≤ 100) (by decide)
  have le2 : ds.length + 1 ≤ sizeLine := Nat.le_trans (by omega : ds.length + 1 ≤ 100) (by decide)
  have le3 : ds.length + es.length + ds.length ≤ sizeLine := Nat.le_trans (by omega : ds.length + es.length + ds.length ≤ 100) (by decide)
  have lh : (ds ++ es).length ≤ 16 := by simp; omega
  have l1 : (ds ++ [g]).length ≤ 16 := by simp; omega
  have l3 : (ds ++ es ++ ds).length ≤ 24 := by simp; omega
  unfold f_l_grown b_l_grown
  simp (decide := true) only [rowD, rowO, List.append_nil, List.cons_append, List.nil_append, ↓k_some, ↓k_no, ↓k_ite, ↓getK_0, ↓getK_s, ↓setK_0, ↓setK_s, ↓ff_0, ↓ff_s, ↓ff_o, ↓fo_l, ↓fo_i, ↓fk_fr, ↓fk_ow, ↓vk_fr, ↓vk_ow, ↓vw_fr, ↓vw_l, ↓mv_fr, ↓mv_ow, ↓sq_nx, ↓sq_bk, ↓sq_ct, ↓sq_rt, ↓fi_rt, ↓fi_nx, ↓ou_0, ↓ou_fr, ↓ou_ow, ↓ou_un, ↓ou_of, ↓ou_on, ↓un_00, ↓un_0s, ↓un_s, ↓rk_fr, ↓rk_un, ↓rk_ow, ↓ak_l, ↓lk_l, ↓si_l, ↓ls_0, ↓ls_s, ↓gb_fr, ↓gb_ow, ↓rb_fr, ↓rb_ow, ↓to_0, ↓to_v, ↓to_b, ↓to_map, ↓to_mapn, ↓tb_fr, ↓tb_ow, ↓bk_0, ↓bk_v, ↓bk_bi, ↓ba_0, ↓ba_s, ↓bk_mapf, ↓bk_mapn, ↓bb_fr, ↓bb_ow, ↓ui_un, ↓set_tag, ↓set_tagf, ↓df_0, ↓sp_0, ↓sp_n, ↓sp_s, ↓fs_0, ↓fs_s, ↓fs_map, ↓ct_0, ↓ct_fr, ↓ct_un, ↓ct_ow, ↓ap_00, ↓ap_0s, ↓ap_s, ↓as_0, ↓as_s, ↓in_v, ↓in_b, ↓ib_fr, ↓ib_ow, ↓fl_v, ↓fr_fd, ↓fl_b, ↓fb_fr, ↓fb_ow, ↓get_look, ↓ln_i, ↓sf_fr, ↓sf_ow, ↓mk_r, ↓w_var, ↓w_view, ↓w_lift, ↓w_frz, ↓w_m1, ↓w_m2, ↓w_mV2, ↓w_m2V, ↓w_tst, ↓w_isN, ↓w_notN, ↓bv_bl, ↓w_andV, ↓w_orV, ↓nv_bl, ↓w_notV, ↓w_ch, ↓pt_i, ↓w_part, ↓w_sl, ↓w_slV, ↓w_cal, ↓w_lenV, ↓w_is, ↓w_isO, ↓w_put, ↓w_set, ↓w_move, ↓w_seq, ↓w_asg, ↓w_app, ↓w_setI, ↓w_items, ↓w_gB, ↓w_rB, ↓w_cl, ↓w_callA, ↓w_gStar, ↓w_fld, ↓get_d1, ↓w_mth, ↓w_mthS, ↓w_prp, ↓w_lenO, ↓w_own2, ↓w_ownB, ↓w_augO, ↓w_setF, ↓w_fn, ↓w_mk, ↓w_arg, ↓w_any, ↓w_kw, ↓selR, ↓selA, ↓sQ_0, ↓sQ_s, ↓st_nx, ↓st_ct, ↓st_bk, ↓st_rt, ↓w_lc, ↓g_ixt, ↓g_ixl, ↓g_ixs, ↓at_0, ↓at_1, ↓at_2, ↓at_3, ↓ix_0, ↓ix_1, ↓ix_2, ↓g_addi, ↓g_adds, ↓g_addt, ↓g_addl, ↓g_muli, ↓g_mult, ↓g_mull, ↓g_sub, ↓g_div, ↓g_mod, ↓g_pow, ↓g_bD, ↓g_lt, ↓g_le, ↓g_gt, ↓g_ge, ↓g_neg, ↓g_bl, ↓g_int, ↓g_lent, ↓g_lenl, ↓g_lens, ↓g_list, ↓g_lisl, ↓g_tupt, ↓g_tupl, ↓g_max, ↓g_min, ↓g_itt, ↓g_itl, ↓g_its, ↓g_slt, ↓g_sll, ↓g_sls, ↓g_rng1, ↓g_rng2, ↓g_enum, ↓g_nm, ↓g_tp, ↓g_gc, ↓g_gn, ↓g_isIntD_non, ↓g_isIntD_bl, ↓g_isIntD_int, ↓g_isIntD_str, ↓g_isIntD_tup, ↓g_isIntD_lst, ↓g_isBoolD_non, ↓g_isBoolD_bl, ↓g_isBoolD_int, ↓g_isBoolD_str, ↓g_isBoolD_tup, ↓g_isBoolD_lst, ↓g_isTupD_non, ↓g_isTupD_bl, ↓g_isTupD_int, ↓g_isTupD_str, ↓g_isTupD_tup, ↓g_isTupD_lst, ↓g_isStrD_non, ↓g_isStrD_bl, ↓g_isStrD_int, ↓g_isStrD_str, ↓g_isStrD_tup, ↓g_isStrD_lst, ↓g_own_non, ↓g_own_bl, ↓g_own_int, ↓g_own_str, ↓g_own_tup, ↓g_own_lst, ↓g_own_ins, ↓g_eqi, ↓g_eqs, ↓g_nei, ↓g_nes, ↓p_bnd, ↓p_ret, ↓p_none, ↓p_fr, ↓p_and, ↓p_or, ↓p_not, ↓p_ifE, ↓p_bl, ↓p_nil, ↓p_cons, ↓p_tup, ↓p_lst, ↓p_drop, ↓p_rt, ↓p_mif, ↓p_for, ↓p_gNil, ↓p_gV, ↓p_gApp, ↓p_rV, ↓p_if, cs_un, cs_fr, List.length_cons, List.length_nil, List.length_map, Nat.zero_add, insD_i, decide_eq_true_eq, Bool.not_eq_true', Bool.not_true, Bool.not_false, decide_eq_false_iff_not, true_and, and_true, ne_eq, not_false_eq_true, List.lookup_cons, Nat.reduceAdd, isN_non, isN_bl, isN_int, isN_str, isN_tup, isN_lst, ↓reduceIte]
  refine ⟨by rfl, add_spec ht (.inl rfl) hg (by omega) hg2 (by omega) ?_⟩
  simp (decide := true) only [rowD, rowO, List.append_nil, List.cons_append, List.nil_append, ↓k_some, ↓k_no, ↓k_ite, ↓getK_0, ↓getK_s, ↓setK_0, ↓setK_s, ↓ff_0, ↓ff_s, ↓ff_o, ↓fo_l, ↓fo_i, ↓fk_fr, ↓fk_ow, ↓vk_fr, ↓vk_ow, ↓vw_fr, ↓vw_l, ↓mv_fr, ↓mv_ow, ↓sq_nx, ↓sq_bk, ↓sq_ct, ↓sq_rt, ↓fi_rt, ↓fi_nx, ↓ou_0, ↓ou_fr, ↓ou_ow, ↓ou_un, ↓ou_of, ↓ou_on, ↓un_00, ↓un_0s, ↓un_s, ↓rk_fr, ↓rk_un, ↓rk_ow, ↓ak_l, ↓lk_l, ↓si_l, ↓ls_0, ↓ls_s, ↓gb_fr, ↓gb_ow, ↓rb_fr, ↓rb_ow, ↓to_0, ↓to_v, ↓to_b, ↓to_map, ↓to_mapn, ↓tb_fr, ↓tb_ow, ↓bk_0, ↓bk_v, ↓bk_bi, ↓ba_0, ↓ba_s, ↓bk_mapf, ↓bk_mapn, ↓bb_fr, ↓bb_ow, ↓ui_un, ↓set_tag, ↓set_tagf, ↓df_0, ↓sp_0, ↓sp_n, ↓sp_s, ↓fs_0, ↓fs_s, ↓fs_map, ↓ct_0, ↓ct_fr, ↓ct_un, ↓ct_ow, ↓ap_00, ↓ap_0s, ↓ap_s, ↓as_0, ↓as_s, ↓in_v, ↓in_b, ↓ib_fr, ↓ib_ow, ↓fl_v, ↓fr_fd, ↓fl_b, ↓fb_fr, ↓fb_ow, ↓get_look, ↓ln_i, ↓sf_fr, ↓sf_ow, ↓mk_r, ↓w_var, ↓w_view, ↓w_lift, ↓w_frz, ↓w_m1, ↓w_m2, ↓w_mV2, ↓w_m2V, ↓w_tst, ↓w_isN, ↓w_notN, ↓bv_bl, ↓w_andV, ↓w_orV, ↓nv_bl, ↓w_notV, ↓w_ch, ↓pt_i, ↓w_part, ↓w_sl, ↓w_slV, ↓w_cal, ↓w_lenV, ↓w_is, ↓w_isO, ↓w_put, ↓w_set, ↓w_move, ↓w_seq, ↓w_asg, ↓w_app, ↓w_setI, ↓w_items, ↓w_gB, ↓w_rB, ↓w_cl, ↓w_callA, ↓w_gStar, ↓w_fld, ↓get_d1, ↓w_mth, ↓w_mthS, ↓w_prp, ↓w_lenO, ↓w_own2, ↓w_ownB, ↓w_augO, ↓w_setF, ↓w_fn, ↓w_mk, ↓w_arg, ↓w_any, ↓w_kw, ↓selR, ↓selA, ↓sQ_0, ↓sQ_s, ↓st_nx, ↓st_ct, ↓st_bk, ↓st_rt, ↓w_lc, ↓g_ixt, ↓g_ixl, ↓g_ixs, ↓at_0, ↓at_1, ↓at_2, ↓at_3, ↓ix_0, ↓ix_1, ↓ix_2, ↓g_addi, ↓g_adds, ↓g_addt, ↓g_addl, ↓g_muli, ↓g_mult, ↓g_mull, ↓g_sub, ↓g_div, ↓g_mod, ↓g_pow, ↓g_bD, ↓g_lt, ↓g_le, ↓g_gt, ↓g_ge, ↓g_neg, ↓g_bl, ↓g_int, ↓g_lent, ↓g_lenl, ↓g_lens, ↓g_list, ↓g_lisl, ↓g_tupt, ↓g_tupl, ↓g_max, ↓g_min, ↓g_itt, ↓g_itl, ↓g_its, ↓g_slt, ↓g_sll, ↓g_sls, ↓g_rng1, ↓g_rng2, ↓g_enum, ↓g_nm, ↓g_tp, ↓g_gc, ↓g_gn, ↓g_isIntD_non, ↓g_isIntD_bl, ↓g_isIntD_int, ↓g_isIntD_str, ↓g_isIntD_tup, ↓g_isIntD_lst, ↓g_isBoolD_non, ↓g_isBoolD_bl, ↓g_isBoolD_int, ↓g_isBoolD_str, ↓g_isBoolD_tup, ↓g_isBoolD_lst, ↓g_isTupD_non, ↓g_isTupD_bl, ↓g_isTupD_int, ↓g_isTupD_str, ↓g_isTupD_tup, ↓g_isTupD_lst, ↓g_isStrD_non, ↓g_isStrD_bl, ↓g_isStrD_int, ↓g_isStrD_str, ↓g_isStrD_tup, ↓g_isStrD_lst, ↓g_own_non, ↓g_own_bl, ↓g_own_int, ↓g_own_str, ↓g_own_tup, ↓g_own_lst, ↓g_own_ins, ↓g_eqi, ↓g_eqs, ↓g_nei, ↓g_nes, ↓p_bnd, ↓p_ret, ↓p_none, ↓p_fr, ↓p_and, ↓p_or, ↓p_not, ↓p_ifE, ↓p_bl, ↓p_nil, ↓p_cons, ↓p_tup, ↓p_lst, ↓p_drop, ↓p_rt, ↓p_mif, ↓p_for, ↓p_gNil, ↓p_gV, ↓p_gApp, ↓p_rV, ↓p_if, cs_un, cs_fr, List.length_cons, List.length_nil, List.length_map, Nat.zero_add, insD_i, decide_eq_true_eq, Bool.not_eq_true', Bool.not_true, Bool.not_false, decide_eq_false_iff_not, true_and, and_true, ne_eq, not_false_eq_true, List.lookup_cons, Nat.reduceAdd, isN_non, isN_bl, isN_int, isN_str, isN_tup, isN_lst, ↓reduceIte]
  refine ⟨by rfl, add_spec ht (.inl rfl) hg (by omega) hg2 (by omega) ?_⟩
  simp (decide := true) only [rowD, rowO, List.append_nil, List.cons_append, List.nil_append, ↓k_some, ↓k_no, ↓k_ite, ↓getK_0, ↓getK_s, ↓setK_0, ↓setK_s, ↓ff_0, ↓ff_s, ↓ff_o, ↓fo_l, ↓fo_i, ↓fk_fr, ↓fk_ow, ↓vk_fr, ↓vk_ow, ↓vw_fr, ↓vw_l, ↓mv_fr, ↓mv_ow, ↓sq_nx, ↓sq_bk, ↓sq_ct, ↓sq_rt, ↓fi_rt, ↓fi_nx, ↓ou_0, ↓ou_fr, ↓ou_ow, ↓ou_un, ↓ou_of, ↓ou_on, ↓un_00, ↓un_0s, ↓un_s, ↓rk_fr, ↓rk_un, ↓rk_ow, ↓ak_l, ↓lk_l, ↓si_l, ↓ls_0, ↓ls_s, ↓gb_fr, ↓gb_ow, ↓rb_fr, ↓rb_ow, ↓to_0, ↓to_v, ↓to_b, ↓to_map, ↓to_mapn, ↓tb_fr, ↓tb_ow, ↓bk_0, ↓bk_v, ↓bk_bi, ↓ba_0, ↓ba_s, ↓bk_mapf, ↓bk_mapn, ↓bb_fr, ↓bb_ow, ↓ui_un, ↓set_tag, ↓set_tagf, ↓df_0, ↓sp_0, ↓sp_n, ↓sp_s, ↓fs_0, ↓fs_s, ↓fs_map, ↓ct_0, ↓ct_fr, ↓ct_un, ↓ct_ow, ↓ap_00, ↓ap_0s, ↓ap_s, ↓as_0, ↓as_s, ↓in_v, ↓in_b, ↓ib_fr, ↓ib_ow, ↓fl_v, ↓fr_fd, ↓fl_b, ↓fb_fr, ↓fb_ow, ↓get_look, ↓ln_i, ↓sf_fr, ↓sf_ow, ↓mk_r, ↓w_var, ↓w_view, ↓w_lift, ↓w_frz, ↓w_m1, ↓w_m2, ↓w_mV2, ↓w_m2V, ↓w_tst, ↓w_isN, ↓w_notN, ↓bv_bl, ↓w_andV, ↓w_orV, ↓nv_bl, ↓w_notV, ↓w_ch, ↓pt_i, ↓w_part, ↓w_sl, ↓w_slV, ↓w_cal, ↓w_lenV, ↓w_is, ↓w_isO, ↓w_put, ↓w_set, ↓w_move, ↓w_seq, ↓w_asg, ↓w_app, ↓w_setI, ↓w_items, ↓w_gB, ↓w_rB, ↓w_cl, ↓w_callA, ↓w_gStar, ↓w_fld, ↓get_d1, ↓w_mth, ↓w_mthS, ↓w_prp, ↓w_lenO, ↓w_own2, ↓w_ownB, ↓w_augO, ↓w_setF, ↓w_fn, ↓w_mk, ↓w_arg, ↓w_any, ↓w_kw, ↓selR, ↓selA, ↓sQ_0, ↓sQ_s, ↓st_nx, ↓st_ct, ↓st_bk, ↓st_rt, ↓w_lc, ↓g_ixt, ↓g_ixl, ↓g_ixs, ↓at_0, ↓at_1, ↓at_2, ↓at_3, ↓ix_0, ↓ix_1, ↓ix_2, ↓g_addi, ↓g_adds, ↓g_addt, ↓g_addl, ↓g_muli, ↓g_mult, ↓g_mull, ↓g_sub, ↓g_div, ↓g_mod, ↓g_pow, ↓g_bD, ↓g_lt, ↓g_le, ↓g_gt, ↓g_ge, ↓g_neg, ↓g_bl, ↓g_int, ↓g_lent, ↓g_lenl, ↓g_lens, ↓g_list, ↓g_lisl, ↓g_tupt, ↓g_tupl, ↓g_max, ↓g_min, ↓g_itt, ↓g_itl, ↓g_its, ↓g_slt, ↓g_sll, ↓g_sls, ↓g_rng1, ↓g_rng2, ↓g_enum, ↓g_nm, ↓g_tp, ↓g_gc, ↓g_gn, ↓g_isIntD_non, ↓g_isIntD_bl, ↓g_isIntD_int, ↓g_isIntD_str, ↓g_isIntD_tup, ↓g_isIntD_lst, ↓g_isBoolD_non, ↓g_isBoolD_bl, ↓g_isBoolD_int, ↓g_isBoolD_str, ↓g_isBoolD_tup, ↓g_isBoolD_lst, ↓g_isTupD_non, ↓g_isTupD_bl, ↓g_isTupD_int, ↓g_isTupD_str, ↓g_isTupD_tup, ↓g_isTupD_lst, ↓g_isStrD_non, ↓g_isStrD_bl, ↓g_isStrD_int, ↓g_isStrD_str, ↓g_isStrD_tup, ↓g_isStrD_lst, ↓g_own_non, ↓g_own_bl, ↓g_own_int, ↓g_own_str, ↓g_own_tup, ↓g_own_lst, ↓g_own_ins, ↓g_eqi, ↓g_eqs, ↓g_nei, ↓g_nes, ↓p_bnd, ↓p_ret, ↓p_none, ↓p_fr, ↓p_and, ↓p_or, ↓p_not, ↓p_ifE, ↓p_bl, ↓p_nil, ↓p_cons, ↓p_tup, ↓p_lst, ↓p_drop, ↓p_rt, ↓p_mif, ↓p_for, ↓p_gNil, ↓p_gV, ↓p_gApp, ↓p_rV, ↓p_if, cs_un, cs_fr, List.length_cons, List.length_nil, List.length_map, Nat.zero_add, insD_i, decide_eq_true_eq, Bool.not_eq_true', Bool.not_true, Bool.not_false, decide_eq_false_iff_not, true_and, and_true, ne_eq, not_false_eq_true, List.lookup_cons, Nat.reduceAdd, isN_non, isN_bl, isN_int, isN_str, isN_tup, isN_lst, ↓reduceIte]
  refine ⟨by rfl, behind_spec ht (.inl rfl) hg (by omega) hd ?_⟩
  simp (decide := true) only [rowD, rowO, List.append_nil, List.cons_append, List.nil_append, ↓k_some, ↓k_no, ↓k_ite, ↓getK_0, ↓getK_s, ↓setK_0, ↓setK_s, ↓ff_0, ↓ff_s, ↓ff_o, ↓fo_l, ↓fo_i, ↓fk_fr, ↓fk_ow, ↓vk_fr, ↓vk_ow, ↓vw_fr, ↓vw_l, ↓mv_fr, ↓mv_ow, ↓sq_nx, ↓sq_bk, ↓sq_ct, ↓sq_rt, ↓fi_rt, ↓fi_nx, ↓ou_0, ↓ou_fr, ↓ou_ow, ↓ou_un, ↓ou_of, ↓ou_on, ↓un_00, ↓un_0s, ↓un_s, ↓rk_fr, ↓rk_un, ↓rk_ow, ↓ak_l, ↓lk_l, ↓si_l, ↓ls_0, ↓ls_s, ↓gb_fr, ↓gb_ow, ↓rb_fr, ↓rb_ow, ↓to_0, ↓to_v, ↓to_b, ↓to_map, ↓to_mapn, ↓tb_fr, ↓tb_ow, ↓bk_0, ↓bk_v, ↓bk_bi, ↓ba_0, ↓ba_s, ↓bk_mapf, ↓bk_mapn, ↓bb_fr, ↓bb_ow, ↓ui_un, ↓set_tag, ↓set_tagf, ↓df_0, ↓sp_0, ↓sp_n, ↓sp_s, ↓fs_0, ↓fs_s, ↓fs_map, ↓ct_0, ↓ct_fr, ↓ct_un, ↓ct_ow, ↓ap_00, ↓ap_0s, ↓ap_s, ↓as_0, ↓as_s, ↓in_v, ↓in_b, ↓ib_fr, ↓ib_ow, ↓fl_v, ↓fr_fd, ↓fl_b, ↓fb_fr, ↓fb_ow, ↓get_look, ↓ln_i, ↓sf_fr, ↓sf_ow, ↓mk_r, ↓w_var, ↓w_view, ↓w_lift, ↓w_frz, ↓w_m1, ↓w_m2, ↓w_mV2, ↓w_m2V, ↓w_tst, ↓w_isN, ↓w_notN, ↓bv_bl, ↓w_andV, ↓w_orV, ↓nv_bl, ↓w_notV, ↓w_ch, ↓pt_i, ↓w_part, ↓w_sl, ↓w_slV, ↓w_cal, ↓w_lenV, ↓w_is, ↓w_isO, ↓w_put, ↓w_set, ↓w_move, ↓w_seq, ↓w_asg, ↓w_app, ↓w_setI, ↓w_items, ↓w_gB, ↓w_rB, ↓w_cl, ↓w_callA, ↓w_gStar, ↓w_fld, ↓get_d1, ↓w_mth, ↓w_mthS, ↓w_prp, ↓w_lenO, ↓w_own2, ↓w_ownB, ↓w_augO, ↓w_setF, ↓w_fn, ↓w_mk, ↓w_arg, ↓w_any, ↓w_kw, ↓selR, ↓selA, ↓sQ_0, ↓sQ_s, ↓st_nx, ↓st_ct, ↓st_bk, ↓st_rt, ↓w_lc, ↓g_ixt, ↓g_ixl, ↓g_ixs, ↓at_0, ↓at_1, ↓at_2, ↓at_3, ↓ix_0, ↓ix_1, ↓ix_2, ↓g_addi, ↓g_adds, ↓g_addt, ↓g_addl, ↓g_muli, ↓g_mult, ↓g_mull, ↓g_sub, ↓g_div, ↓g_mod, ↓g_pow, ↓g_bD, ↓g_lt, ↓g_le, ↓g_gt, ↓g_ge, ↓g_neg, ↓g_bl, ↓g_int, ↓g_lent, ↓g_lenl, ↓g_lens, ↓g_list, ↓g_lisl, ↓g_tupt, ↓g_tupl, ↓g_max, ↓g_min, ↓g_itt, ↓g_itl, ↓g_its, ↓g_slt, ↓g_sll, ↓g_sls, ↓g_rng1, ↓g_rng2, ↓g_enum, ↓g_nm, ↓g_tp, ↓g_gc, ↓g_gn, ↓g_isIntD_non, ↓g_isIntD_bl, ↓g_isIntD_int, ↓g_isIntD_str, ↓g_isIntD_tup, ↓g_isIntD_lst, ↓g_isBoolD_non, ↓g_isBoolD_bl, ↓g_isBoolD_int, ↓g_isBoolD_str, ↓g_isBoolD_tup, ↓g_isBoolD_lst, ↓g_isTupD_non, ↓g_isTupD_bl, ↓g_isTupD_int, ↓g_isTupD_str, ↓g_isTupD_tup, ↓g_isTupD_lst, ↓g_isStrD_non, ↓g_isStrD_bl, ↓g_isStrD_int, ↓g_isStrD_str, ↓g_isStrD_tup, ↓g_isStrD_lst, ↓g_own_non, ↓g_own_bl, ↓g_own_int, ↓g_own_str, ↓g_own_tup, ↓g_own_lst, ↓g_own_ins, ↓g_eqi, ↓g_eqs, ↓g_nei, ↓g_nes, ↓p_bnd, ↓p_ret, ↓p_none, ↓p_fr, ↓p_and, ↓p_or, ↓p_not, ↓p_ifE, ↓p_bl, ↓p_nil, ↓p_cons, ↓p_tup, ↓p_lst, ↓p_drop, ↓p_rt, ↓p_mif, ↓p_for, ↓p_gNil, ↓p_gV, ↓p_gApp, ↓p_rV, ↓p_if, cs_un, cs_fr, List.length_cons, List.length_nil, List.length_map, Nat.zero_add, insD_i, decide_eq_true_eq, Bool.not_eq_true', Bool.not_true, Bool.not_false, decide_eq_false_iff_not, true_and, and_true, ne_eq, not_false_eq_true, List.lookup_cons, Nat.reduceAdd, isN_non, isN_bl, isN_int, isN_str, isN_tup, isN_lst, ↓reduceIte]
  refine ⟨le1, fields_spec ht hh (by omega) ?_⟩
  simp (decide := true) only [rowD, rowO, List.append_nil, List.cons_append, List.nil_append, ↓k_some, ↓k_no, ↓k_ite, ↓getK_0, ↓getK_s, ↓setK_0, ↓setK_s, ↓ff_0, ↓ff_s, ↓ff_o, ↓fo_l, ↓fo_i, ↓fk_fr, ↓fk_ow, ↓vk_fr, ↓vk_ow, ↓vw_fr, ↓vw_l, ↓mv_fr, ↓mv_ow, ↓sq_nx, ↓sq_bk, ↓sq_ct, ↓sq_rt, ↓fi_rt, ↓fi_nx, ↓ou_0, ↓ou_fr, ↓ou_ow, ↓ou_un, ↓ou_of, ↓ou_on, ↓un_00, ↓un_0s, ↓un_s, ↓rk_fr, ↓rk_un, ↓rk_ow, ↓ak_l, ↓lk_l, ↓si_l, ↓ls_0, ↓ls_s, ↓gb_fr, ↓gb_ow, ↓rb_fr, ↓rb_ow, ↓to_0, ↓to_v, ↓to_b, ↓to_map, ↓to_mapn, ↓tb_fr, ↓tb_ow, ↓bk_0, ↓bk_v, ↓bk_bi, ↓ba_0, ↓ba_s, ↓bk_mapf, ↓bk_mapn, ↓bb_fr, ↓bb_ow, ↓ui_un, ↓set_tag, ↓set_tagf, ↓df_0, ↓sp_0, ↓sp_n, ↓sp_s, ↓fs_0, ↓fs_s, ↓fs_map, ↓ct_0, ↓ct_fr, ↓ct_un, ↓ct_ow, ↓ap_00, ↓ap_0s, ↓ap_s, ↓as_0, ↓as_s, ↓in_v, ↓in_b, ↓ib_fr, ↓ib_ow, ↓fl_v, ↓fr_fd, ↓fl_b, ↓fb_fr, ↓fb_ow, ↓get_look, ↓ln_i, ↓sf_fr, ↓sf_ow, ↓mk_r, ↓w_var, ↓w_view, ↓w_lift, ↓w_frz, ↓w_m1, ↓w_m2, ↓w_mV2, ↓w_m2V, ↓w_tst, ↓w_isN, ↓w_notN, ↓bv_bl, ↓w_andV, ↓w_orV, ↓nv_bl, ↓w_notV, ↓w_ch, ↓pt_i, ↓w_part, ↓w_sl, ↓w_slV, ↓w_cal, ↓w_lenV, ↓w_is, ↓w_isO, ↓w_put, ↓w_set, ↓w_move, ↓w_seq, ↓w_asg, ↓w_app, ↓w_setI, ↓w_items, ↓w_gB, ↓w_rB, ↓w_cl, ↓w_callA, ↓w_gStar, ↓w_fld, ↓get_d1, ↓w_mth, ↓w_mthS, ↓w_prp, ↓w_lenO, ↓w_own2, ↓w_ownB, ↓w_augO, ↓w_setF, ↓w_fn, ↓w_mk, ↓w_arg, ↓w_any, ↓w_kw, ↓selR, ↓selA, ↓sQ_0, ↓sQ_s, ↓st_nx, ↓st_ct, ↓st_bk, ↓st_rt, ↓w_lc, ↓g_ixt, ↓g_ixl, ↓g_ixs, ↓at_0, ↓at_1, ↓at_2, ↓at_3, ↓ix_0, ↓ix_1, ↓ix_2, ↓g_addi, ↓g_adds, ↓g_addt, ↓g_addl, ↓g_muli, ↓g_mult, ↓g_mull, ↓g_sub, ↓g_div, ↓g_mod, ↓g_pow, ↓g_bD, ↓g_lt, ↓g_le, ↓g_gt, ↓g_ge, ↓g_neg, ↓g_bl, ↓g_int, ↓g_lent, ↓g_lenl, ↓g_lens, ↓g_list, ↓g_lisl, ↓g_tupt, ↓g_tupl, ↓g_max, ↓g_min, ↓g_itt, ↓g_itl, ↓g_its, ↓g_slt, ↓g_sll, ↓g_sls, ↓g_rng1, ↓g_rng2, ↓g_enum, ↓g_nm, ↓g_tp, ↓g_gc, ↓g_gn, ↓g_isIntD_non, ↓g_isIntD_bl, ↓g_isIntD_int, ↓g_isIntD_str, ↓g_isIntD_tup, ↓g_isIntD_lst, ↓g_isBoolD_non, ↓g_isBoolD_bl, ↓g_isBoolD_int, ↓g_isBoolD_str, ↓g_isBoolD_tup, ↓g_isBoolD_lst, ↓g_isTupD_non, ↓g_isTupD_bl, ↓g_isTupD_int, ↓g_isTupD_str, ↓g_isTupD_tup, ↓g_isTupD_lst, ↓g_isStrD_non, ↓g_isStrD_bl, ↓g_isStrD_int, ↓g_isStrD_str, ↓g_isStrD_tup, ↓g_isStrD_lst, ↓g_own_non, ↓g_own_bl, ↓g_own_int, ↓g_own_str, ↓g_own_tup, ↓g_own_lst, ↓g_own_ins, ↓g_eqi, ↓g_eqs, ↓g_nei, ↓g_nes, ↓p_bnd, ↓p_ret, ↓p_none, ↓p_fr, ↓p_and, ↓p_or, ↓p_not, ↓p_ifE, ↓p_bl, ↓p_nil, ↓p_cons, ↓p_tup, ↓p_lst, ↓p_drop, ↓p_rt, ↓p_mif, ↓p_for, ↓p_gNil, ↓p_gV, ↓p_gApp, ↓p_rV, ↓p_if, cs_un, cs_fr, List.length_cons, List.length_nil, List.length_map, Nat.zero_add, insD_i, decide_eq_true_eq, Bool.not_eq_true', Bool.not_true, Bool.not_false, decide_eq_false_iff_not, true_and, and_true, ne_eq, not_false_eq_true, List.lookup_cons, Nat.reduceAdd, isN_non, isN_bl, isN_int, isN_str, isN_tup, isN_lst, ↓reduceIte]
  refine ⟨le1, fields_spec ht hh (by omega) ?_⟩
  simp (decide := true) only [rowD, rowO, List.append_nil, List.cons_append, List.nil_append, ↓k_some, ↓k_no, ↓k_ite, ↓getK_0, ↓getK_s, ↓setK_0, ↓setK_s, ↓ff_0, ↓ff_s, ↓ff_o, ↓fo_l, ↓fo_i, ↓fk_fr, ↓fk_ow, ↓vk_fr, ↓vk_ow, ↓vw_fr, ↓vw_l, ↓mv_fr, ↓mv_ow, ↓sq_nx, ↓sq_bk, ↓sq_ct, ↓sq_rt, ↓fi_rt, ↓fi_nx, ↓ou_0, ↓ou_fr, ↓ou_ow, ↓ou_un, ↓ou_of, ↓ou_on, ↓un_00, ↓un_0s, ↓un_s, ↓rk_fr, ↓rk_un, ↓rk_ow, ↓ak_l, ↓lk_l, ↓si_l, ↓ls_0, ↓ls_s, ↓gb_fr, ↓gb_ow, ↓rb_fr, ↓rb_ow, ↓to_0, ↓to_v, ↓to_b, ↓to_map, ↓to_mapn, ↓tb_fr, ↓tb_ow, ↓bk_0, ↓bk_v, ↓bk_bi, ↓ba_0, ↓ba_s, ↓bk_mapf, ↓bk_mapn, ↓bb_fr, ↓bb_ow, ↓ui_un, ↓set_tag, ↓set_tagf, ↓df_0, ↓sp_0, ↓sp_n, ↓sp_s, ↓fs_0, ↓fs_s, ↓fs_map, ↓ct_0, ↓ct_fr, ↓ct_un, ↓ct_ow, ↓ap_00, ↓ap_0s, ↓ap_s, ↓as_0, ↓as_s, ↓in_v, ↓in_b, ↓ib_fr, ↓ib_ow, ↓fl_v, ↓fr_fd, ↓fl_b, ↓fb_fr, ↓fb_ow, ↓get_look, ↓ln_i, ↓sf_fr, ↓sf_ow, ↓mk_r, ↓w_var, ↓w_view, ↓w_lift, ↓w_frz, ↓w_m1, ↓w_m2, ↓w_mV2, ↓w_m2V, ↓w_tst, ↓w_isN, ↓w_notN, ↓bv_bl, ↓w_andV, ↓w_orV, ↓nv_bl, ↓w_notV, ↓w_ch, ↓pt_i, ↓w_part, ↓w_sl, ↓w_slV, ↓w_cal, ↓w_lenV, ↓w_is, ↓w_isO, ↓w_put, ↓w_set, ↓w_move, ↓w_seq, ↓w_asg, ↓w_app, ↓w_setI, ↓w_items, ↓w_gB, ↓w_rB, ↓w_cl, ↓w_callA, ↓w_gStar, ↓w_fld, ↓get_d1, ↓w_mth, ↓w_mthS, ↓w_prp, ↓w_lenO, ↓w_own2, ↓w_ownB, ↓w_augO, ↓w_setF, ↓w_fn, ↓w_mk, ↓w_arg, ↓w_any, ↓w_kw, ↓selR, ↓selA, ↓sQ_0, ↓sQ_s, ↓st_nx, ↓st_ct, ↓st_bk, ↓st_rt, ↓w_lc, ↓g_ixt, ↓g_ixl, ↓g_ixs, ↓at_0, ↓at_1, ↓at_2, ↓at_3, ↓ix_0, ↓ix_1, ↓ix_2, ↓g_addi, ↓g_adds, ↓g_addt, ↓g_addl, ↓g_muli, ↓g_mult, ↓g_mull, ↓g_sub, ↓g_div, ↓g_mod, ↓g_pow, ↓g_bD, ↓g_lt, ↓g_le, ↓g_gt, ↓g_ge, ↓g_neg, ↓g_bl, ↓g_int, ↓g_lent, ↓g_lenl, ↓g_lens, ↓g_list, ↓g_lisl, ↓g_tupt, ↓g_tupl, ↓g_max, ↓g_min, ↓g_itt, ↓g_itl, ↓g_its, ↓g_slt, ↓g_sll, ↓g_sls, ↓g_rng1, ↓g_rng2, ↓g_enum, ↓g_nm, ↓g_tp, ↓g_gc, ↓g_gn, ↓g_isIntD_non, ↓g_isIntD_bl, ↓g_isIntD_int, ↓g_isIntD_str, ↓g_isIntD_tup, ↓g_isIntD_lst, ↓g_isBoolD_non, ↓g_isBoolD_bl, ↓g_isBoolD_int, ↓g_isBoolD_str, ↓g_isBoolD_tup, ↓g_isBoolD_lst, ↓g_isTupD_non, ↓g_isTupD_bl, ↓g_isTupD_int, ↓g_isTupD_str, ↓g_isTupD_tup, ↓g_isTupD_lst, ↓g_isStrD_non, ↓g_isStrD_bl, ↓g_isStrD_int, ↓g_isStrD_str, ↓g_isStrD_tup, ↓g_isStrD_lst, ↓g_own_non, ↓g_own_bl, ↓g_own_int, ↓g_own_str, ↓g_own_tup, ↓g_own_lst, ↓g_own_ins, ↓g_eqi, ↓g_eqs, ↓g_nei, ↓g_nes, ↓p_bnd, ↓p_ret, ↓p_none, ↓p_fr, ↓p_and, ↓p_or, ↓p_not, ↓p_ifE, ↓p_bl, ↓p_nil, ↓p_cons, ↓p_tup, ↓p_lst, ↓p_drop, ↓p_rt, ↓p_mif, ↓p_for, ↓p_gNil, ↓p_gV, ↓p_gApp, ↓p_rV, ↓p_if, cs_un, cs_fr, List.length_cons, List.length_nil, List.length_map, Nat.zero_add, insD_i, decide_eq_true_eq, Bool.not_eq_true', Bool.not_true, Bool.not_false, decide_eq_false_iff_not, true_and, and_true, ne_eq, not_false_eq_true, List.lookup_cons, Nat.reduceAdd, isN_non, isN_bl, isN_int, isN_str, isN_tup, isN_lst, ↓reduceIte]
  refine ⟨le2, fields_spec ht h1 (by omega) ?_⟩
  simp (decide := true) only [rowD, rowO, List.append_nil, List.cons_append, List.nil_append, ↓k_some, ↓k_no, ↓k_ite, ↓getK_0, ↓getK_s, ↓setK_0, ↓setK_s, ↓ff_0, ↓ff_s, ↓ff_o, ↓fo_l, ↓fo_i, ↓fk_fr, ↓fk_ow, ↓vk_fr, ↓vk_ow, ↓vw_fr, ↓vw_l, ↓mv_fr, ↓mv_ow, ↓sq_nx, ↓sq_bk, ↓sq_ct, ↓sq_rt, ↓fi_rt, ↓fi_nx, ↓ou_0, ↓ou_fr, ↓ou_ow, ↓ou_un, ↓ou_of, ↓ou_on, ↓un_00, ↓un_0s, ↓un_s, ↓rk_fr, ↓rk_un, ↓rk_ow, ↓ak_l, ↓lk_l, ↓si_l, ↓ls_0, ↓ls_s, ↓gb_fr, ↓gb_ow, ↓rb_fr, ↓rb_ow, ↓to_0, ↓to_v, ↓to_b, ↓to_map, ↓to_mapn, ↓tb_fr, ↓tb_ow, ↓bk_0, ↓bk_v, ↓bk_bi, ↓ba_0, ↓ba_s, ↓bk_mapf, ↓bk_mapn, ↓bb_fr, ↓bb_ow, ↓ui_un, ↓set_tag, ↓set_tagf, ↓df_0, ↓sp_0, ↓sp_n, ↓sp_s, ↓fs_0, ↓fs_s, ↓fs_map, ↓ct_0, ↓ct_fr, ↓ct_un, ↓ct_ow, ↓ap_00, ↓ap_0s, ↓ap_s, ↓as_0, ↓as_s, ↓in_v, ↓in_b, ↓ib_fr, ↓ib_ow, ↓fl_v, ↓fr_fd, ↓fl_b, ↓fb_fr, ↓fb_ow, ↓get_look, ↓ln_i, ↓sf_fr, ↓sf_ow, ↓mk_r, ↓w_var, ↓w_view, ↓w_lift, ↓w_frz, ↓w_m1, ↓w_m2, ↓w_mV2, ↓w_m2V, ↓w_tst, ↓w_isN, ↓w_notN, ↓bv_bl, ↓w_andV, ↓w_orV, ↓nv_bl, ↓w_notV, ↓w_ch, ↓pt_i, ↓w_part, ↓w_sl, ↓w_slV, ↓w_cal, ↓w_lenV, ↓w_is, ↓w_isO, ↓w_put, ↓w_set, ↓w_move, ↓w_seq, ↓w_asg, ↓w_app, ↓w_setI, ↓w_items, ↓w_gB, ↓w_rB, ↓w_cl, ↓w_callA, ↓w_gStar, ↓w_fld, ↓get_d1, ↓w_mth, ↓w_mthS, ↓w_prp, ↓w_lenO, ↓w_own2, ↓w_ownB, ↓w_augO, ↓w_setF, ↓w_fn, ↓w_mk, ↓w_arg, ↓w_any, ↓w_kw, ↓selR, ↓selA, ↓sQ_0, ↓sQ_s, ↓st_nx, ↓st_ct, ↓st_bk, ↓st_rt, ↓w_lc, ↓g_ixt, ↓g_ixl, ↓g_ixs, ↓at_0, ↓at_1, ↓at_2, ↓at_3, ↓ix_0, ↓ix_1, ↓ix_2, ↓g_addi, ↓g_adds, ↓g_addt, ↓g_addl, ↓g_muli, ↓g_mult, ↓g_mull, ↓g_sub, ↓g_div, ↓g_mod, ↓g_pow, ↓g_bD, ↓g_lt, ↓g_le, ↓g_gt, ↓g_ge, ↓g_neg, ↓g_bl, ↓g_int, ↓g_lent, ↓g_lenl, ↓g_lens, ↓g_list, ↓g_lisl, ↓g_tupt, ↓g_tupl, ↓g_max, ↓g_min, ↓g_itt, ↓g_itl, ↓g_its, ↓g_slt, ↓g_sll, ↓g_sls, ↓g_rng1, ↓g_rng2, ↓g_enum, ↓g_nm, ↓g_tp, ↓g_gc, ↓g_gn, ↓g_isIntD_non, ↓g_isIntD_bl, ↓g_isIntD_int, ↓g_isIntD_str, ↓g_isIntD_tup, ↓g_isIntD_lst, ↓g_isBoolD_non, ↓g_isBoolD_bl, ↓g_isBoolD_int, ↓g_isBoolD_str, ↓g_isBoolD_tup, ↓g_isBoolD_lst, ↓g_isTupD_non, ↓g_isTupD_bl, ↓g_isTupD_int, ↓g_isTupD_str, ↓g_isTupD_tup, ↓g_isTupD_lst, ↓g_isStrD_non, ↓g_isStrD_bl, ↓g_isStrD_int, ↓g_isStrD_str, ↓g_isStrD_tup, ↓g_isStrD_lst, ↓g_own_non, ↓g_own_bl, ↓g_own_int, ↓g_own_str, ↓g_own_tup, ↓g_own_lst, ↓g_own_ins, ↓g_eqi, ↓g_eqs, ↓g_nei, ↓g_nes, ↓p_bnd, ↓p_ret, ↓p_none, ↓p_fr, ↓p_and, ↓p_or, ↓p_not, ↓p_ifE, ↓p_bl, ↓p_nil, ↓p_cons, ↓p_tup, ↓p_lst, ↓p_drop, ↓p_rt, ↓p_mif, ↓p_for, ↓p_gNil, ↓p_gV, ↓p_gApp, ↓p_rV, ↓p_if, cs_un, cs_fr, List.length_cons, List.length_nil, List.length_map, Nat.zero_add, insD_i, decide_eq_true_eq, Bool.not_eq_true', Bool.not_true, Bool.not_false, decide_eq_false_iff_not, true_and, and_true, ne_eq, not_false_eq_true, List.lookup_cons, Nat.reduceAdd, isN_non, isN_bl, isN_int, isN_str, isN_tup, isN_lst, ↓reduceIte]
  refine fields_spec ht hg (by omega) ?_
  simp (decide := true) only [rowD, rowO, List.append_nil, List.cons_append, List.nil_append, ↓k_some, ↓k_no, ↓k_ite, ↓getK_0, ↓getK_s, ↓setK_0, ↓setK_s, ↓ff_0, ↓ff_s, ↓ff_o, ↓fo_l, ↓fo_i, ↓fk_fr, ↓fk_ow, ↓vk_fr, ↓vk_ow, ↓vw_fr, ↓vw_l, ↓mv_fr, ↓mv_ow, ↓sq_nx, ↓sq_bk, ↓sq_ct, ↓sq_rt, ↓fi_rt, ↓fi_nx, ↓ou_0, ↓ou_fr, ↓ou_ow, ↓ou_un, ↓ou_of, ↓ou_on, ↓un_00, ↓un_0s, ↓un_s, ↓rk_fr, ↓rk_un, ↓rk_ow, ↓ak_l, ↓lk_l, ↓si_l, ↓ls_0, ↓ls_s, ↓gb_fr, ↓gb_ow, ↓rb_fr, ↓rb_ow, ↓to_0, ↓to_v, ↓to_b, ↓to_map, ↓to_mapn, ↓tb_fr, ↓tb_ow, ↓bk_0, ↓bk_v, ↓bk_bi, ↓ba_0, ↓ba_s, ↓bk_mapf, ↓bk_mapn, ↓bb_fr, ↓bb_ow, ↓ui_un, ↓set_tag, ↓set_tagf, ↓df_0, ↓sp_0, ↓sp_n, ↓sp_s, ↓fs_0, ↓fs_s, ↓fs_map, ↓ct_0, ↓ct_fr, ↓ct_un, ↓ct_ow, ↓ap_00, ↓ap_0s, ↓ap_s, ↓as_0, ↓as_s, ↓in_v, ↓in_b, ↓ib_fr, ↓ib_ow, ↓fl_v, ↓fr_fd, ↓fl_b, ↓fb_fr, ↓fb_ow, ↓get_look, ↓ln_i, ↓sf_fr, ↓sf_ow, ↓mk_r, ↓w_var, ↓w_view, ↓w_lift, ↓w_frz, ↓w_m1, ↓w_m2, ↓w_mV2, ↓w_m2V, ↓w_tst, ↓w_isN, ↓w_notN, ↓bv_bl, ↓w_andV, ↓w_orV, ↓nv_bl, ↓w_notV, ↓w_ch, ↓pt_i, ↓w_part, ↓w_sl, ↓w_slV, ↓w_cal, ↓w_lenV, ↓w_is, ↓w_isO, ↓w_put, ↓w_set, ↓w_move, ↓w_seq, ↓w_asg, ↓w_app, ↓w_setI, ↓w_items, ↓w_gB, ↓w_rB, ↓w_cl, ↓w_callA, ↓w_gStar, ↓w_fld, ↓get_d1, ↓w_mth, ↓w_mthS, ↓w_prp, ↓w_lenO, ↓w_own2, ↓w_ownB, ↓w_augO, ↓w_setF, ↓w_fn, ↓w_mk, ↓w_arg, ↓w_any, ↓w_kw, ↓selR, ↓selA, ↓sQ_0, ↓sQ_s, ↓st_nx, ↓st_ct, ↓st_bk, ↓st_rt, ↓w_lc, ↓g_ixt, ↓g_ixl, ↓g_ixs, ↓at_0, ↓at_1, ↓at_2, ↓at_3, ↓ix_0, ↓ix_1, ↓ix_2, ↓g_addi, ↓g_adds, ↓g_addt, ↓g_addl, ↓g_muli, ↓g_mult, ↓g_mull, ↓g_sub, ↓g_div, ↓g_mod, ↓g_pow, ↓g_bD, ↓g_lt, ↓g_le, ↓g_gt, ↓g_ge, ↓g_neg, ↓g_bl, ↓g_int, ↓g_lent, ↓g_lenl, ↓g_lens, ↓g_list, ↓g_lisl, ↓g_tupt, ↓g_tupl, ↓g_max, ↓g_min, ↓g_itt, ↓g_itl, ↓g_its, ↓g_slt, ↓g_sll, ↓g_sls, ↓g_rng1, ↓g_rng2, ↓g_enum, ↓g_nm, ↓g_tp, ↓g_gc, ↓g_gn, ↓g_isIntD_non, ↓g_isIntD_bl, ↓g_isIntD_int, ↓g_isIntD_str, ↓g_isIntD_tup, ↓g_isIntD_lst, ↓g_isBoolD_non, ↓g_isBoolD_bl, ↓g_isBoolD_int, ↓g_isBoolD_str, ↓g_isBoolD_tup, ↓g_isBoolD_lst, ↓g_isTupD_non, ↓g_isTupD_bl, ↓g_isTupD_int, ↓g_isTupD_str, ↓g_isTupD_tup, ↓g_isTupD_lst, ↓g_isStrD_non, ↓g_isStrD_bl, ↓g_isStrD_int, ↓g_isStrD_str, ↓g_isStrD_tup, ↓g_isStrD_lst, ↓g_own_non, ↓g_own_bl, ↓g_own_int, ↓g_own_str, ↓g_own_tup, ↓g_own_lst, ↓g_own_ins, ↓g_eqi, ↓g_eqs, ↓g_nei, ↓g_nes, ↓p_bnd, ↓p_ret, ↓p_none, ↓p_fr, ↓p_and, ↓p_or, ↓p_not, ↓p_ifE, ↓p_bl, ↓p_nil, ↓p_cons, ↓p_tup, ↓p_lst, ↓p_drop, ↓p_rt, ↓p_mif, ↓p_for, ↓p_gNil, ↓p_gV, ↓p_gApp, ↓p_rV, ↓p_if, cs_un, cs_fr, List.length_cons, List.length_nil, List.length_map, Nat.zero_add, insD_i, decide_eq_true_eq, Bool.not_eq_true', Bool.not_true, Bool.not_false, decide_eq_false_iff_not, true_and, and_true, ne_eq, not_false_eq_true, List.lookup_cons, Nat.reduceAdd, isN_non, isN_bl, isN_int, isN_str, isN_tup, isN_lst, ↓reduceIte]
  refine fields_spec ht hg2 (by omega) ?_
  simp (decide := true) only [rowD, rowO, List.append_nil, List.cons_append, List.nil_append, ↓k_some, ↓k_no, ↓k_ite, ↓getK_0, ↓getK_s, ↓setK_0, ↓setK_s, ↓ff_0, ↓ff_s, ↓ff_o, ↓fo_l, ↓fo_i, ↓fk_fr, ↓fk_ow, ↓vk_fr, ↓vk_ow, ↓vw_fr, ↓vw_l, ↓mv_fr, ↓mv_ow, ↓sq_nx, ↓sq_bk, ↓sq_ct, ↓sq_rt, ↓fi_rt, ↓fi_nx, ↓ou_0, ↓ou_fr, ↓ou_ow, ↓ou_un, ↓ou_of, ↓ou_on, ↓un_00, ↓un_0s, ↓un_s, ↓rk_fr, ↓rk_un, ↓rk_ow, ↓ak_l, ↓lk_l, ↓si_l, ↓ls_0, ↓ls_s, ↓gb_fr, ↓gb_ow, ↓rb_fr, ↓rb_ow, ↓to_0, ↓to_v, ↓to_b, ↓to_map, ↓to_mapn, ↓tb_fr, ↓tb_ow, ↓bk_0, ↓bk_v, ↓bk_bi, ↓ba_0, ↓ba_s, ↓bk_mapf, ↓bk_mapn, ↓bb_fr, ↓bb_ow, ↓ui_un, ↓set_tag, ↓set_tagf, ↓df_0, ↓sp_0, ↓sp_n, ↓sp_s, ↓fs_0, ↓fs_s, ↓fs_map, ↓ct_0, ↓ct_fr, ↓ct_un, ↓ct_ow, ↓ap_00, ↓ap_0s, ↓ap_s, ↓as_0, ↓as_s, ↓in_v, ↓in_b, ↓ib_fr, ↓ib_ow, ↓fl_v, ↓fr_fd, ↓fl_b, ↓fb_fr, ↓fb_ow, ↓get_look, ↓ln_i, ↓sf_fr, ↓sf_ow, ↓mk_r, ↓w_var, ↓w_view, ↓w_lift, ↓w_frz, ↓w_m1, ↓w_m2, ↓w_mV2, ↓w_m2V, ↓w_tst, ↓w_isN, ↓w_notN, ↓bv_bl, ↓w_andV, ↓w_orV, ↓nv_bl, ↓w_notV, ↓w_ch, ↓pt_i, ↓w_part, ↓w_sl, ↓w_slV, ↓w_cal, ↓w_lenV, ↓w_is, ↓w_isO, ↓w_put, ↓w_set, ↓w_move, ↓w_seq, ↓w_asg, ↓w_app, ↓w_setI, ↓w_items, ↓w_gB, ↓w_rB, ↓w_cl, ↓w_callA, ↓w_gStar, ↓w_fld, ↓get_d1, ↓w_mth, ↓w_mthS, ↓w_prp, ↓w_lenO, ↓w_own2, ↓w_ownB, ↓w_augO, ↓w_setF, ↓w_fn, ↓w_mk, ↓w_arg, ↓w_any, ↓w_kw, ↓selR, ↓selA, ↓sQ_0, ↓sQ_s, ↓st_nx, ↓st_ct, ↓st_bk, ↓st_rt, ↓w_lc, ↓g_ixt, ↓g_ixl, ↓g_ixs, ↓at_0, ↓at_1, ↓at_2, ↓at_3, ↓ix_0, ↓ix_1, ↓ix_2, ↓g_addi, ↓g_adds, ↓g_addt, ↓g_addl, ↓g_muli, ↓g_mult, ↓g_mull, ↓g_sub, ↓g_div, ↓g_mod, ↓g_pow, ↓g_bD, ↓g_lt, ↓g_le, ↓g_gt, ↓g_ge, ↓g_neg, ↓g_bl, ↓g_int, ↓g_lent, ↓g_lenl, ↓g_lens, ↓g_list, ↓g_lisl, ↓g_tupt, ↓g_tupl, ↓g_max, ↓g_min, ↓g_itt, ↓g_itl, ↓g_its, ↓g_slt, ↓g_sll, ↓g_sls, ↓g_rng1, ↓g_rng2, ↓g_enum, ↓g_nm, ↓g_tp, ↓g_gc, ↓g_gn, ↓g_isIntD_non, ↓g_isIntD_bl, ↓g_isIntD_int, ↓g_isIntD_str, ↓g_isIntD_tup, ↓g_isIntD_lst, ↓g_isBoolD_non, ↓g_isBoolD_bl, ↓g_isBoolD_int, ↓g_isBoolD_str, ↓g_isBoolD_tup, ↓g_isBoolD_lst, ↓g_isTupD_non, ↓g_isTupD_bl, ↓g_isTupD_int, ↓g_isTupD_str, ↓g_isTupD_tup, ↓g_isTupD_lst, ↓g_isStrD_non, ↓g_isStrD_bl, ↓g_isStrD_int, ↓g_isStrD_str, ↓g_isStrD_tup, ↓g_isStrD_lst, ↓g_own_non, ↓g_own_bl, ↓g_own_int, ↓g_own_str, ↓g_own_tup, ↓g_own_lst, ↓g_own_ins, ↓g_eqi, ↓g_eqs, ↓g_nei, ↓g_nes, ↓p_bnd, ↓p_ret, ↓p_none, ↓p_fr, ↓p_and, ↓p_or, ↓p_not, ↓p_ifE, ↓p_bl, ↓p_nil, ↓p_cons, ↓p_tup, ↓p_lst, ↓p_drop, ↓p_rt, ↓p_mif, ↓p_for, ↓p_gNil, ↓p_gV, ↓p_gApp, ↓p_rV, ↓p_if, cs_un, cs_fr, List.length_cons, List.length_nil, List.length_map, Nat.zero_add, insD_i, decide_eq_true_eq, Bool.not_eq_true', Bool.not_true, Bool.not_false, decide_eq_false_iff_not, true_and, and_true, ne_eq, not_false_eq_true, List.lookup_cons, Nat.reduceAdd, isN_non, isN_bl, isN_int, isN_str, isN_tup, isN_lst, ↓reduceIte]
  refine ⟨by rfl, add_spec ht (.inl rfl) hh (by omega) hg (by omega) ?_⟩
  simp (decide := true) only [rowD, rowO, List.append_nil, List.cons_append, List.nil_append, ↓k_some, ↓k_no, ↓k_ite, ↓getK_0, ↓getK_s, ↓setK_0, ↓setK_s, ↓ff_0, ↓ff_s, ↓ff_o, ↓fo_l, ↓fo_i, ↓fk_fr, ↓fk_ow, ↓vk_fr, ↓vk_ow, ↓vw_fr, ↓vw_l, ↓mv_fr, ↓mv_ow, ↓sq_nx, ↓sq_bk, ↓sq_ct, ↓sq_rt, ↓fi_rt, ↓fi_nx, ↓ou_0, ↓ou_fr, ↓ou_ow, ↓ou_un, ↓ou_of, ↓ou_on, ↓un_00, ↓un_0s, ↓un_s, ↓rk_fr, ↓rk_un, ↓rk_ow, ↓ak_l, ↓lk_l, ↓si_l, ↓ls_0, ↓ls_s, ↓gb_fr, ↓gb_ow, ↓rb_fr, ↓rb_ow, ↓to_0, ↓to_v, ↓to_b, ↓to_map, ↓to_mapn, ↓tb_fr, ↓tb_ow, ↓bk_0, ↓bk_v, ↓bk_bi, ↓ba_0, ↓ba_s, ↓bk_mapf, ↓bk_mapn, ↓bb_fr, ↓bb_ow, ↓ui_un, ↓set_tag, ↓set_tagf, ↓df_0, ↓sp_0, ↓sp_n, ↓sp_s, ↓fs_0, ↓fs_s, ↓fs_map, ↓ct_0, ↓ct_fr, ↓ct_un, ↓ct_ow, ↓ap_00, ↓ap_0s, ↓ap_s, ↓as_0, ↓as_s, ↓in_v, ↓in_b, ↓ib_fr, ↓ib_ow, ↓fl_v, ↓fr_fd, ↓fl_b, ↓fb_fr, ↓fb_ow, ↓get_look, ↓ln_i, ↓sf_fr, ↓sf_ow, ↓mk_r, ↓w_var, ↓w_view, ↓w_lift, ↓w_frz, ↓w_m1, ↓w_m2, ↓w_mV2, ↓w_m2V, ↓w_tst, ↓w_isN, ↓w_notN, ↓bv_bl, ↓w_andV, ↓w_orV, ↓nv_bl, ↓w_notV, ↓w_ch, ↓pt_i, ↓w_part, ↓w_sl, ↓w_slV, ↓w_cal, ↓w_lenV, ↓w_is, ↓w_isO, ↓w_put, ↓w_set, ↓w_move, ↓w_seq, ↓w_asg, ↓w_app, ↓w_setI, ↓w_items, ↓w_gB, ↓w_rB, ↓w_cl, ↓w_callA, ↓w_gStar, ↓w_fld, ↓get_d1, ↓w_mth, ↓w_mthS, ↓w_prp, ↓w_lenO, ↓w_own2, ↓w_ownB, ↓w_augO, ↓w_setF, ↓w_fn, ↓w_mk, ↓w_arg, ↓w_any, ↓w_kw, ↓selR, ↓selA, ↓sQ_0, ↓sQ_s, ↓st_nx, ↓st_ct, ↓st_bk, ↓st_rt, ↓w_lc, ↓g_ixt, ↓g_ixl, ↓g_ixs, ↓at_0, ↓at_1, ↓at_2, ↓at_3, ↓ix_0, ↓ix_1, ↓ix_2, ↓g_addi, ↓g_adds, ↓g_addt, ↓g_addl, ↓g_muli, ↓g_mult, ↓g_mull, ↓g_sub, ↓g_div, ↓g_mod, ↓g_pow, ↓g_bD, ↓g_lt, ↓g_le, ↓g_gt, ↓g_ge, ↓g_neg, ↓g_bl, ↓g_int, ↓g_lent, ↓g_lenl, ↓g_lens, ↓g_list, ↓g_lisl, ↓g_tupt, ↓g_tupl, ↓g_max, ↓g_min, ↓g_itt, ↓g_itl, ↓g_its, ↓g_slt, ↓g_sll, ↓g_sls, ↓g_rng1, ↓g_rng2, ↓g_enum, ↓g_nm, ↓g_tp, ↓g_gc, ↓g_gn, ↓g_isIntD_non, ↓g_isIntD_bl, ↓g_isIntD_int, ↓g_isIntD_str, ↓g_isIntD_tup, ↓g_isIntD_lst, ↓g_isBoolD_non, ↓g_isBoolD_bl, ↓g_isBoolD_int, ↓g_isBoolD_str, ↓g_isBoolD_tup, ↓g_isBoolD_lst, ↓g_isTupD_non, ↓g_isTupD_bl, ↓g_isTupD_int, ↓g_isTupD_str, ↓g_isTupD_tup, ↓g_isTupD_lst, ↓g_isStrD_non, ↓g_isStrD_bl, ↓g_isStrD_int, ↓g_isStrD_str, ↓g_isStrD_tup, ↓g_isStrD_lst, ↓g_own_non, ↓g_own_bl, ↓g_own_int, ↓g_own_str, ↓g_own_tup, ↓g_own_lst, ↓g_own_ins, ↓g_eqi, ↓g_eqs, ↓g_nei, ↓g_nes, ↓p_bnd, ↓p_ret, ↓p_none, ↓p_fr, ↓p_and, ↓p_or, ↓p_not, ↓p_ifE, ↓p_bl, ↓p_nil, ↓p_cons, ↓p_tup, ↓p_lst, ↓p_drop, ↓p_rt, ↓p_mif, ↓p_for, ↓p_gNil, ↓p_gV, ↓p_gApp, ↓p_rV, ↓p_if, cs_un, cs_fr, List.length_cons, List.length_nil, List.length_map, Nat.zero_add, insD_i, decide_eq_true_eq, Bool.not_eq_true', Bool.not_true, Bool.not_false, decide_eq_false_iff_not, true_and, and_true, ne_eq, not_false_eq_true, List.lookup_cons, Nat.reduceAdd, isN_non, isN_bl, isN_int, isN_str, isN_tup, isN_lst, ↓reduceIte]
  refine ⟨le1, by simp only [List.length_append]; exact le3, fields_spec ht h3 (by omega) ?_⟩
  simp (decide := true) only [rowD, rowO, List.append_nil, List.cons_append, List.nil_append, ↓k_some, ↓k_no, ↓k_ite, ↓getK_0, ↓getK_s, ↓setK_0, ↓setK_s, ↓ff_0, ↓ff_s, ↓ff_o, ↓fo_l, ↓fo_i, ↓fk_fr, ↓fk_ow, ↓vk_fr, ↓vk_ow, ↓vw_fr, ↓vw_l, ↓mv_fr, ↓mv_ow, ↓sq_nx, ↓sq_bk, ↓sq_ct, ↓sq_rt, ↓fi_rt, ↓fi_nx, ↓ou_0, ↓ou_fr, ↓ou_ow, ↓ou_un, ↓ou_of, ↓ou_on, ↓un_00, ↓un_0s, ↓un_s, ↓rk_fr, ↓rk_un, ↓rk_ow, ↓ak_l, ↓lk_l, ↓si_l, ↓ls_0, ↓ls_s, ↓gb_fr, ↓gb_ow, ↓rb_fr, ↓rb_ow, ↓to_0, ↓to_v, ↓to_b, ↓to_map, ↓to_mapn, ↓tb_fr, ↓tb_ow, ↓bk_0, ↓bk_v, ↓bk_bi, ↓ba_0, ↓ba_s, ↓bk_mapf, ↓bk_mapn, ↓bb_fr, ↓bb_ow, ↓ui_un, ↓set_tag, ↓set_tagf, ↓df_0, ↓sp_0, ↓sp_n, ↓sp_s, ↓fs_0, ↓fs_s, ↓fs_map, ↓ct_0, ↓ct_fr, ↓ct_un, ↓ct_ow, ↓ap_00, ↓ap_0s, ↓ap_s, ↓as_0, ↓as_s, ↓in_v, ↓in_b, ↓ib_fr, ↓ib_ow, ↓fl_v, ↓fr_fd, ↓fl_b, ↓fb_fr, ↓fb_ow, ↓get_look, ↓ln_i, ↓sf_fr, ↓sf_ow, ↓mk_r, ↓w_var, ↓w_view, ↓w_lift, ↓w_frz, ↓w_m1, ↓w_m2, ↓w_mV2, ↓w_m2V, ↓w_tst, ↓w_isN, ↓w_notN, ↓bv_bl, ↓w_andV, ↓w_orV, ↓nv_bl, ↓w_notV, ↓w_ch, ↓pt_i, ↓w_part, ↓w_sl, ↓w_slV, ↓w_cal, ↓w_lenV, ↓w_is, ↓w_isO, ↓w_put, ↓w_set, ↓w_move, ↓w_seq, ↓w_asg, ↓w_app, ↓w_setI, ↓w_items, ↓w_gB, ↓w_rB, ↓w_cl, ↓w_callA, ↓w_gStar, ↓w_fld, ↓get_d1, ↓w_mth, ↓w_mthS, ↓w_prp, ↓w_lenO, ↓w_own2, ↓w_ownB, ↓w_augO, ↓w_setF, ↓w_fn, ↓w_mk, ↓w_arg, ↓w_any, ↓w_kw, ↓selR, ↓selA, ↓sQ_0, ↓sQ_s, ↓st_nx, ↓st_ct, ↓st_bk, ↓st_rt, ↓w_lc, ↓g_ixt, ↓g_ixl, ↓g_ixs, ↓at_0, ↓at_1, ↓at_2, ↓at_3, ↓ix_0, ↓ix_1, ↓ix_2, ↓g_addi, ↓g_adds, ↓g_addt, ↓g_addl, ↓g_muli, ↓g_mult, ↓g_mull, ↓g_sub, ↓g_div, ↓g_mod, ↓g_pow, ↓g_bD, ↓g_lt, ↓g_le, ↓g_gt, ↓g_ge, ↓g_neg, ↓g_bl, ↓g_int, ↓g_lent, ↓g_lenl, ↓g_lens, ↓g_list, ↓g_lisl, ↓g_tupt, ↓g_tupl, ↓g_max, ↓g_min, ↓g_itt, ↓g_itl, ↓g_its, ↓g_slt, ↓g_sll, ↓g_sls, ↓g_rng1, ↓g_rng2, ↓g_enum, ↓g_nm, ↓g_tp, ↓g_gc, ↓g_gn, ↓g_isIntD_non, ↓g_isIntD_bl, ↓g_isIntD_int, ↓g_isIntD_str, ↓g_isIntD_tup, ↓g_isIntD_lst, ↓g_isBoolD_non, ↓g_isBoolD_bl, ↓g_isBoolD_int, ↓g_isBoolD_str, ↓g_isBoolD_tup, ↓g_isBoolD_lst, ↓g_isTupD_non, ↓g_isTupD_bl, ↓g_isTupD_int, ↓g_isTupD_str, ↓g_isTupD_tup, ↓g_isTupD_lst, ↓g_isStrD_non, ↓g_isStrD_bl, ↓g_isStrD_int, ↓g_isStrD_str, ↓g_isStrD_tup, ↓g_isStrD_lst, ↓g_own_non, ↓g_own_bl, ↓g_own_int, ↓g_own_str, ↓g_own_tup, ↓g_own_lst, ↓g_own_ins, ↓g_eqi, ↓g_eqs, ↓g_nei, ↓g_nes, ↓p_bnd, ↓p_ret, ↓p_none, ↓p_fr, ↓p_and, ↓p_or, ↓p_not, ↓p_ifE, ↓p_bl, ↓p_nil, ↓p_cons, ↓p_tup, ↓p_lst, ↓p_drop, ↓p_rt, ↓p_mif, ↓p_for, ↓p_gNil, ↓p_gV, ↓p_gApp, ↓p_rV, ↓p_if, cs_un, cs_fr, List.length_cons, List.length_nil, List.length_map, Nat.zero_add, insD_i, decide_eq_true_eq, Bool.not_eq_true', Bool.not_true, Bool.not_false, decide_eq_false_iff_not, true_and, and_true, ne_eq, not_false_eq_true, List.lookup_cons, Nat.reduceAdd, isN_non, isN_bl, isN_int, isN_str, isN_tup, isN_lst, ↓reduceIte]
  exact h _
theorem cut_map {is : List Int} {a b : Option Int} : L3.cut (is.map D.int) a b = (L3.cut is a b).map .int := by
  unfold L3.cut
  rw [List.map_take, List.map_drop, List.length_map]
theorem cut_le {α : Type} {l : List α} {a b : Option Int} : (L3.cut l a b).length ≤ l.length := by
  unfold L3.cut
  simp
  omega
def LawI (ns : List Int) (i : Nat) (a : AS) : Prop := ∃ x1 x2 x3 x4 x5 x6 x7 x8 x9 x10 : Sl, a = [.fr (.scr (ns.map .int)), x1, x2, x3, x4, x5, x6, x7, x8, x9, x10]
theorem eight {s : Int} {l : List D} (h : 8 ≤ l.length) (hg : Gates s l) : ∃ a0 a1 a2 a3 a4 a5 a6 a7 : D, L3.cut l none (some 8) = [a0, a1, a2, a3, a4, a5, a6, a7] ∧ Gates s [a0, a1, a2, a3, a4, a5, a6, a7] := by
  have e := cut_lo (l := l) (c := 8) (by decide) (by omega)
  match l, h, hg, e with
  | a0 :: a1 :: a2 :: a3 :: a4 :: a5 :: a6 :: a7 :: r, _, hg, e =>
    refine ⟨a0, a1, a2, a3, a4, a5, a6, a7, e, fun d hd => hg d ?_⟩
    exact List.mem_of_mem_take (i := 8) hd
theorem law_spec {ns : List Int} (hn : ns.length ≤ 63) : PostF (f_law Z) [.fr (.scr (ns.map .int))] fun r _ => r = .fr (.bl true) := by
  unfold f_law b_law
  simp (decide := true) only [cut_map, List.append_nil, List.cons_append, List.nil_append, ↓k_some, ↓k_no, ↓k_ite, ↓getK_0, ↓getK_s, ↓setK_0, ↓setK_s, ↓ff_0, ↓ff_s, ↓ff_o, ↓fo_l, ↓fo_i, ↓fk_fr, ↓fk_ow, ↓vk_fr, ↓vk_ow, ↓vw_fr, ↓vw_l, ↓mv_fr, ↓mv_ow, ↓sq_nx, ↓sq_bk, ↓sq_ct, ↓sq_rt, ↓fi_rt, ↓fi_nx, ↓ou_0, ↓ou_fr, ↓ou_ow, ↓ou_un, ↓ou_of, ↓ou_on, ↓un_00, ↓un_0s, ↓un_s, ↓rk_fr, ↓rk_un, ↓rk_ow, ↓ak_l, ↓lk_l, ↓si_l, ↓ls_0, ↓ls_s, ↓gb_fr, ↓gb_ow, ↓rb_fr, ↓rb_ow, ↓to_0, ↓to_v, ↓to_b, ↓to_map, ↓to_mapn, ↓tb_fr, ↓tb_ow, ↓bk_0, ↓bk_v, ↓bk_bi, ↓ba_0, ↓ba_s, ↓bk_mapf, ↓bk_mapn, ↓bb_fr, ↓bb_ow, ↓ui_un, ↓set_tag, ↓set_tagf, ↓df_0, ↓sp_0, ↓sp_n, ↓sp_s, ↓fs_0, ↓fs_s, ↓fs_map, ↓ct_0, ↓ct_fr, ↓ct_un, ↓ct_ow, ↓ap_00, ↓ap_0s, ↓ap_s, ↓as_0, ↓as_s, ↓in_v, ↓in_b, ↓ib_fr, ↓ib_ow, ↓fl_v, ↓fr_fd, ↓fl_b, ↓fb_fr, ↓fb_ow, ↓get_look, ↓ln_i, ↓sf_fr, ↓sf_ow, ↓mk_r, ↓w_var, ↓w_view, ↓w_lift, ↓w_frz, ↓w_m1, ↓w_m2, ↓w_mV2, ↓w_m2V, ↓w_tst, ↓w_isN, ↓w_notN, ↓bv_bl, ↓w_andV, ↓w_orV, ↓nv_bl, ↓w_notV, ↓w_ch, ↓pt_i, ↓w_part, ↓w_sl, ↓w_slV, ↓w_cal, ↓w_lenV, ↓w_is, ↓w_isO, ↓w_put, ↓w_set, ↓w_move, ↓w_seq, ↓w_asg, ↓w_app, ↓w_setI, ↓w_items, ↓w_gB, ↓w_rB, ↓w_cl, ↓w_callA, ↓w_gStar, ↓w_fld, ↓get_d1, ↓w_mth, ↓w_mthS, ↓w_prp, ↓w_lenO, ↓w_own2, ↓w_ownB, ↓w_augO, ↓w_setF, ↓w_fn, ↓w_mk, ↓w_arg, ↓w_any, ↓w_kw, ↓selR, ↓selA, ↓sQ_0, ↓sQ_s, ↓st_nx, ↓st_ct, ↓st_bk, ↓st_rt, ↓w_lc, ↓g_ixt, ↓g_ixl, ↓g_ixs, ↓at_0, ↓at_1, ↓at_2, ↓at_3, ↓ix_0, ↓ix_1, ↓ix_2, ↓g_addi, ↓g_adds, ↓g_addt, ↓g_addl, ↓g_muli, ↓g_mult, ↓g_mull, ↓g_sub, ↓g_div, ↓g_mod, ↓g_pow, ↓g_bD, ↓g_lt, ↓g_le, ↓g_gt, ↓g_ge, ↓g_neg, ↓g_bl, ↓g_int, ↓g_lent, ↓g_lenl, ↓g_lens, ↓g_list, ↓g_lisl, ↓g_tupt, ↓g_tupl, ↓g_max, ↓g_min, ↓g_itt, ↓g_itl, ↓g_its, ↓g_slt, ↓g_sll, ↓g_sls, ↓g_rng1, ↓g_rng2, ↓g_enum, ↓g_nm, ↓g_tp, ↓g_gc, ↓g_gn, ↓g_isIntD_non, ↓g_isIntD_bl, ↓g_isIntD_int, ↓g_isIntD_str, ↓g_isIntD_tup, ↓g_isIntD_lst, ↓g_isBoolD_non, ↓g_isBoolD_bl, ↓g_isBoolD_int, ↓g_isBoolD_str, ↓g_isBoolD_tup, ↓g_isBoolD_lst, ↓g_isTupD_non, ↓g_isTupD_bl, ↓g_isTupD_int, ↓g_isTupD_str, ↓g_isTupD_tup, ↓g_isTupD_lst, ↓g_isStrD_non, ↓g_isStrD_bl, ↓g_isStrD_int, ↓g_isStrD_str, ↓g_isStrD_tup, ↓g_isStrD_lst, ↓g_own_non, ↓g_own_bl, ↓g_own_int, ↓g_own_str, ↓g_own_tup, ↓g_own_lst, ↓g_own_ins, ↓g_eqi, ↓g_eqs, ↓g_nei, ↓g_nes, ↓p_bnd, ↓p_ret, ↓p_none, ↓p_fr, ↓p_and, ↓p_or, ↓p_not, ↓p_ifE, ↓p_bl, ↓p_nil, ↓p_cons, ↓p_tup, ↓p_lst, ↓p_drop, ↓p_rt, ↓p_mif, ↓p_for, ↓p_gNil, ↓p_gV, ↓p_gApp, ↓p_rV, ↓p_if, cs_un, cs_fr, List.length_cons, List.length_nil, List.length_map, Nat.zero_add, insD_i, decide_eq_true_eq, Bool.not_eq_true', Bool.not_true, Bool.not_false, decide_eq_false_iff_not, true_and, and_true, ne_eq, not_false_eq_true, List.lookup_cons, Nat.reduceAdd, isN_non, isN_bl, isN_int, isN_str, isN_tup, isN_lst, ↓reduceIte]
  refine ⟨?_, ?_⟩
  · have := cut_le (l := ns) (a := none) (b := some 8)
    exact Nat.le_trans (by omega : _ ≤ 100) (by decide : 100 ≤ sizeLine)
  refine for_inv (LawI ns) ?_ ?_ ?_
  · exact ⟨.un, .un, .un, .un, .un, .un, .un, .un, .un, .un, rfl⟩
  · rintro i d a hd ⟨x1, x2, x3, x4, x5, x6, x7, x8, x9, x10, rfl⟩
    obtain ⟨z, rfl⟩ : ∃ z : Int, d = .int z := by
      have := List.mem_of_getElem? hd
      rcases List.mem_cons.mp this with e | e
      · exact ⟨_, e⟩
      · obtain ⟨y, _, e2⟩ := List.mem_map.mp e
        exact ⟨y, e2.symm⟩
    simp (decide := true) only [rowD, rowO, List.append_nil, List.cons_append, List.nil_append, ↓k_some, ↓k_no, ↓k_ite, ↓getK_0, ↓getK_s, ↓setK_0, ↓setK_s, ↓ff_0, ↓ff_s, ↓ff_o, ↓fo_l, ↓fo_i, ↓fk_fr, ↓fk_ow, ↓vk_fr, ↓vk_ow, ↓vw_fr, ↓vw_l, ↓mv_fr, ↓mv_ow, ↓sq_nx, ↓sq_bk, ↓sq_ct, ↓sq_rt, ↓fi_rt, ↓fi_nx, ↓ou_0, ↓ou_fr, ↓ou_ow, ↓ou_un, ↓ou_of, ↓ou_on, ↓un_00, ↓un_0s, ↓un_s, ↓rk_fr, ↓rk_un, ↓rk_ow, ↓ak_l, ↓lk_l, ↓si_l, ↓ls_0, ↓ls_s, ↓gb_fr, ↓gb_ow, ↓rb_fr, ↓rb_ow, ↓to_0, ↓to_v, ↓to_b, ↓to_map, ↓to_mapn, ↓tb_fr, ↓tb_ow, ↓bk_0, ↓bk_v, ↓bk_bi, ↓ba_0, ↓ba_s, ↓bk_mapf, ↓bk_mapn, ↓bb_fr, ↓bb_ow, ↓ui_un, ↓set_tag, ↓set_tagf, ↓df_0, ↓sp_0, ↓sp_n, ↓sp_s, ↓fs_0, ↓fs_s, ↓fs_map, ↓ct_0, ↓ct_fr, ↓ct_un, ↓ct_ow, ↓ap_00, ↓ap_0s, ↓ap_s, ↓as_0, ↓as_s, ↓in_v, ↓in_b, ↓ib_fr, ↓ib_ow, ↓fl_v, ↓fr_fd, ↓fl_b, ↓fb_fr, ↓fb_ow, ↓get_look, ↓ln_i, ↓sf_fr, ↓sf_ow, ↓mk_r, ↓w_var, ↓w_view, ↓w_lift, ↓w_frz, ↓w_m1, ↓w_m2, ↓w_mV2, ↓w_m2V, ↓w_tst, ↓w_isN, ↓w_notN, ↓bv_bl, ↓w_andV, ↓w_orV, ↓nv_bl, ↓w_notV, ↓w_ch, ↓pt_i, ↓w_part, ↓w_sl, ↓w_slV, ↓w_cal, ↓w_lenV, ↓w_is, ↓w_isO, ↓w_put, ↓w_set, ↓w_move, ↓w_seq, ↓w_asg, ↓w_app, ↓w_setI, ↓w_items, ↓w_gB, ↓w_rB, ↓w_cl, ↓w_callA, ↓w_gStar, ↓w_fld, ↓get_d1, ↓w_mth, ↓w_mthS, ↓w_prp, ↓w_lenO, ↓w_own2, ↓w_ownB, ↓w_augO, ↓w_setF, ↓w_fn, ↓w_mk, ↓w_arg, ↓w_any, ↓w_kw, ↓selR, ↓selA, ↓sQ_0, ↓sQ_s, ↓st_nx, ↓st_ct, ↓st_bk, ↓st_rt, ↓w_lc, ↓g_ixt, ↓g_ixl, ↓g_ixs, ↓at_0, ↓at_1, ↓at_2, ↓at_3, ↓ix_0, ↓ix_1, ↓ix_2, ↓g_addi, ↓g_adds, ↓g_addt, ↓g_addl, ↓g_muli, ↓g_mult, ↓g_mull, ↓g_sub, ↓g_div, ↓g_mod, ↓g_pow, ↓g_bD, ↓g_lt, ↓g_le, ↓g_gt, ↓g_ge, ↓g_neg, ↓g_bl, ↓g_int, ↓g_lent, ↓g_lenl, ↓g_lens, ↓g_list, ↓g_lisl, ↓g_tupt, ↓g_tupl, ↓g_max, ↓g_min, ↓g_itt, ↓g_itl, ↓g_its, ↓g_slt, ↓g_sll, ↓g_sls, ↓g_rng1, ↓g_rng2, ↓g_enum, ↓g_nm, ↓g_tp, ↓g_gc, ↓g_gn, ↓g_isIntD_non, ↓g_isIntD_bl, ↓g_isIntD_int, ↓g_isIntD_str, ↓g_isIntD_tup, ↓g_isIntD_lst, ↓g_isBoolD_non, ↓g_isBoolD_bl, ↓g_isBoolD_int, ↓g_isBoolD_str, ↓g_isBoolD_tup, ↓g_isBoolD_lst, ↓g_isTupD_non, ↓g_isTupD_bl, ↓g_isTupD_int, ↓g_isTupD_str, ↓g_isTupD_tup, ↓g_isTupD_lst, ↓g_isStrD_non, ↓g_isStrD_bl, ↓g_isStrD_int, ↓g_isStrD_str, ↓g_isStrD_tup, ↓g_isStrD_lst, ↓g_own_non, ↓g_own_bl, ↓g_own_int, ↓g_own_str, ↓g_own_tup, ↓g_own_lst, ↓g_own_ins, ↓g_eqi, ↓g_eqs, ↓g_nei, ↓g_nes, ↓p_bnd, ↓p_ret, ↓p_none, ↓p_fr, ↓p_and, ↓p_or, ↓p_not, ↓p_ifE, ↓p_bl, ↓p_nil, ↓p_cons, ↓p_tup, ↓p_lst, ↓p_drop, ↓p_rt, ↓p_mif, ↓p_for, ↓p_gNil, ↓p_gV, ↓p_gApp, ↓p_rV, ↓p_if, cs_un, cs_fr, List.length_cons, List.length_nil, List.length_map, Nat.zero_add, insD_i, decide_eq_true_eq, Bool.not_eq_true', Bool.not_true, Bool.not_false, decide_eq_false_iff_not, true_and, and_true, ne_eq, not_false_eq_true, List.lookup_cons, Nat.reduceAdd, isN_non, isN_bl, isN_int, isN_str, isN_tup, isN_lst, ↓reduceIte]
    refine pot_spec fun l0 p0 => ?_
    simp (decide := true) only [rowD, rowO, List.append_nil, List.cons_append, List.nil_append, ↓k_some, ↓k_no, ↓k_ite, ↓getK_0, ↓getK_s, ↓setK_0, ↓setK_s, ↓ff_0, ↓ff_s, ↓ff_o, ↓fo_l, ↓fo_i, ↓fk_fr, ↓fk_ow, ↓vk_fr, ↓vk_ow, ↓vw_fr, ↓vw_l, ↓mv_fr, ↓mv_ow, ↓sq_nx, ↓sq_bk, ↓sq_ct, ↓sq_rt, ↓fi_rt, ↓fi_nx, ↓ou_0, ↓ou_fr, ↓ou_ow, ↓ou_un, ↓ou_of, ↓ou_on, ↓un_00, ↓un_0s, ↓un_s, ↓rk_fr, ↓rk_un, ↓rk_ow, ↓ak_l, ↓lk_l, ↓si_l, ↓ls_0, ↓ls_s, ↓gb_fr, ↓gb_ow, ↓rb_fr, ↓rb_ow, ↓to_0, ↓to_v, ↓to_b, ↓to_map, ↓to_mapn, ↓tb_fr, ↓tb_ow, ↓bk_0, ↓bk_v, ↓bk_bi, ↓ba_0, ↓ba_s, ↓bk_mapf, ↓bk_mapn, ↓bb_fr, ↓bb_ow, ↓ui_un, ↓set_tag, ↓set_tagf, ↓df_0, ↓sp_0, ↓sp_n, ↓sp_s, ↓fs_0, ↓fs_s, ↓fs_map, ↓ct_0, ↓ct_fr, ↓ct_un, ↓ct_ow, ↓ap_00, ↓ap_0s, ↓ap_s, ↓as_0, ↓as_s, ↓in_v, ↓in_b, ↓ib_fr, ↓ib_ow, ↓fl_v, ↓fr_fd, ↓fl_b, ↓fb_fr, ↓fb_ow, ↓get_look, ↓ln_i, ↓sf_fr, ↓sf_ow, ↓mk_r, ↓w_var, ↓w_view, ↓w_lift, ↓w_frz, ↓w_m1, ↓w_m2, ↓w_mV2, ↓w_m2V, ↓w_tst, ↓w_isN, ↓w_notN, ↓bv_bl, ↓w_andV, ↓w_orV, ↓nv_bl, ↓w_notV, ↓w_ch, ↓pt_i, ↓w_part, ↓w_sl, ↓w_slV, ↓w_cal, ↓w_lenV, ↓w_is, ↓w_isO, ↓w_put, ↓w_set, ↓w_move, ↓w_seq, ↓w_asg, ↓w_app, ↓w_setI, ↓w_items, ↓w_gB, ↓w_rB, ↓w_cl, ↓w_callA, ↓w_gStar, ↓w_fld, ↓get_d1, ↓w_mth, ↓w_mthS, ↓w_prp, ↓w_lenO, ↓w_own2, ↓w_ownB, ↓w_augO, ↓w_setF, ↓w_fn, ↓w_mk, ↓w_arg, ↓w_any, ↓w_kw, ↓selR, ↓selA, ↓sQ_0, ↓sQ_s, ↓st_nx, ↓st_ct, ↓st_bk, ↓st_rt, ↓w_lc, ↓g_ixt, ↓g_ixl, ↓g_ixs, ↓at_0, ↓at_1, ↓at_2, ↓at_3, ↓ix_0, ↓ix_1, ↓ix_2, ↓g_addi, ↓g_adds, ↓g_addt, ↓g_addl, ↓g_muli, ↓g_mult, ↓g_mull, ↓g_sub, ↓g_div, ↓g_mod, ↓g_pow, ↓g_bD, ↓g_lt, ↓g_le, ↓g_gt, ↓g_ge, ↓g_neg, ↓g_bl, ↓g_int, ↓g_lent, ↓g_lenl, ↓g_lens, ↓g_list, ↓g_lisl, ↓g_tupt, ↓g_tupl, ↓g_max, ↓g_min, ↓g_itt, ↓g_itl, ↓g_its, ↓g_slt, ↓g_sll, ↓g_sls, ↓g_rng1, ↓g_rng2, ↓g_enum, ↓g_nm, ↓g_tp, ↓g_gc, ↓g_gn, ↓g_isIntD_non, ↓g_isIntD_bl, ↓g_isIntD_int, ↓g_isIntD_str, ↓g_isIntD_tup, ↓g_isIntD_lst, ↓g_isBoolD_non, ↓g_isBoolD_bl, ↓g_isBoolD_int, ↓g_isBoolD_str, ↓g_isBoolD_tup, ↓g_isBoolD_lst, ↓g_isTupD_non, ↓g_isTupD_bl, ↓g_isTupD_int, ↓g_isTupD_str, ↓g_isTupD_tup, ↓g_isTupD_lst, ↓g_isStrD_non, ↓g_isStrD_bl, ↓g_isStrD_int, ↓g_isStrD_str, ↓g_isStrD_tup, ↓g_isStrD_lst, ↓g_own_non, ↓g_own_bl, ↓g_own_int, ↓g_own_str, ↓g_own_tup, ↓g_own_lst, ↓g_own_ins, ↓g_eqi, ↓g_eqs, ↓g_nei, ↓g_nes, ↓p_bnd, ↓p_ret, ↓p_none, ↓p_fr, ↓p_and, ↓p_or, ↓p_not, ↓p_ifE, ↓p_bl, ↓p_nil, ↓p_cons, ↓p_tup, ↓p_lst, ↓p_drop, ↓p_rt, ↓p_mif, ↓p_for, ↓p_gNil, ↓p_gV, ↓p_gApp, ↓p_rV, ↓p_if, cs_un, cs_fr, List.length_cons, List.length_nil, List.length_map, Nat.zero_add, insD_i, decide_eq_true_eq, Bool.not_eq_true', Bool.not_true, Bool.not_false, decide_eq_false_iff_not, true_and, and_true, ne_eq, not_false_eq_true, List.lookup_cons, Nat.reduceAdd, isN_non, isN_bl, isN_int, isN_str, isN_tup, isN_lst, ↓reduceIte]
    refine fir_spec p0 (by omega) (by omega) (by omega) fun t l1 ht tl p1 => ?_
    obtain ⟨ts1, ts2⟩ := tree_len ht
    simp (decide := true) only [rowD, rowO, List.append_nil, List.cons_append, List.nil_append, ↓k_some, ↓k_no, ↓k_ite, ↓getK_0, ↓getK_s, ↓setK_0, ↓setK_s, ↓ff_0, ↓ff_s, ↓ff_o, ↓fo_l, ↓fo_i, ↓fk_fr, ↓fk_ow, ↓vk_fr, ↓vk_ow, ↓vw_fr, ↓vw_l, ↓mv_fr, ↓mv_ow, ↓sq_nx, ↓sq_bk, ↓sq_ct, ↓sq_rt, ↓fi_rt, ↓fi_nx, ↓ou_0, ↓ou_fr, ↓ou_ow, ↓ou_un, ↓ou_of, ↓ou_on, ↓un_00, ↓un_0s, ↓un_s, ↓rk_fr, ↓rk_un, ↓rk_ow, ↓ak_l, ↓lk_l, ↓si_l, ↓ls_0, ↓ls_s, ↓gb_fr, ↓gb_ow, ↓rb_fr, ↓rb_ow, ↓to_0, ↓to_v, ↓to_b, ↓to_map, ↓to_mapn, ↓tb_fr, ↓tb_ow, ↓bk_0, ↓bk_v, ↓bk_bi, ↓ba_0, ↓ba_s, ↓bk_mapf, ↓bk_mapn, ↓bb_fr, ↓bb_ow, ↓ui_un, ↓set_tag, ↓set_tagf, ↓df_0, ↓sp_0, ↓sp_n, ↓sp_s, ↓fs_0, ↓fs_s, ↓fs_map, ↓ct_0, ↓ct_fr, ↓ct_un, ↓ct_ow, ↓ap_00, ↓ap_0s, ↓ap_s, ↓as_0, ↓as_s, ↓in_v, ↓in_b, ↓ib_fr, ↓ib_ow, ↓fl_v, ↓fr_fd, ↓fl_b, ↓fb_fr, ↓fb_ow, ↓get_look, ↓ln_i, ↓sf_fr, ↓sf_ow, ↓mk_r, ↓w_var, ↓w_view, ↓w_lift, ↓w_frz, ↓w_m1, ↓w_m2, ↓w_mV2, ↓w_m2V, ↓w_tst, ↓w_isN, ↓w_notN, ↓bv_bl, ↓w_andV, ↓w_orV, ↓nv_bl, ↓w_notV, ↓w_ch, ↓pt_i, ↓w_part, ↓w_sl, ↓w_slV, ↓w_cal, ↓w_lenV, ↓w_is, ↓w_isO, ↓w_put, ↓w_set, ↓w_move, ↓w_seq, ↓w_asg, ↓w_app, ↓w_setI, ↓w_items, ↓w_gB, ↓w_rB, ↓w_cl, ↓w_callA, ↓w_gStar, ↓w_fld, ↓get_d1, ↓w_mth, ↓w_mthS, ↓w_prp, ↓w_lenO, ↓w_own2, ↓w_ownB, ↓w_augO, ↓w_setF, ↓w_fn, ↓w_mk, ↓w_arg, ↓w_any, ↓w_kw, ↓selR, ↓selA, ↓sQ_0, ↓sQ_s, ↓st_nx, ↓st_ct, ↓st_bk, ↓st_rt, ↓w_lc, ↓g_ixt, ↓g_ixl, ↓g_ixs, ↓at_0, ↓at_1, ↓at_2, ↓at_3, ↓ix_0, ↓ix_1, ↓ix_2, ↓g_addi, ↓g_adds, ↓g_addt, ↓g_addl, ↓g_muli, ↓g_mult, ↓g_mull, ↓g_sub, ↓g_div, ↓g_mod, ↓g_pow, ↓g_bD, ↓g_lt, ↓g_le, ↓g_gt, ↓g_ge, ↓g_neg, ↓g_bl, ↓g_int, ↓g_lent, ↓g_lenl, ↓g_lens, ↓g_list, ↓g_lisl, ↓g_tupt, ↓g_tupl, ↓g_max, ↓g_min, ↓g_itt, ↓g_itl, ↓g_its, ↓g_slt, ↓g_sll, ↓g_sls, ↓g_rng1, ↓g_rng2, ↓g_enum, ↓g_nm, ↓g_tp, ↓g_gc, ↓g_gn, ↓g_isIntD_non, ↓g_isIntD_bl, ↓g_isIntD_int, ↓g_isIntD_str, ↓g_isIntD_tup, ↓g_isIntD_lst, ↓g_isBoolD_non, ↓g_isBoolD_bl, ↓g_isBoolD_int, ↓g_isBoolD_str, ↓g_isBoolD_tup, ↓g_isBoolD_lst, ↓g_isTupD_non, ↓g_isTupD_bl, ↓g_isTupD_int, ↓g_isTupD_str, ↓g_isTupD_tup, ↓g_isTupD_lst, ↓g_isStrD_non, ↓g_isStrD_bl, ↓g_isStrD_int, ↓g_isStrD_str, ↓g_isStrD_tup, ↓g_isStrD_lst, ↓g_own_non, ↓g_own_bl, ↓g_own_int, ↓g_own_str, ↓g_own_tup, ↓g_own_lst, ↓g_own_ins, ↓g_eqi, ↓g_eqs, ↓g_nei, ↓g_nes, ↓p_bnd, ↓p_ret, ↓p_none, ↓p_fr, ↓p_and, ↓p_or, ↓p_not, ↓p_ifE, ↓p_bl, ↓p_nil, ↓p_cons, ↓p_tup, ↓p_lst, ↓p_drop, ↓p_rt, ↓p_mif, ↓p_for, ↓p_gNil, ↓p_gV, ↓p_gApp, ↓p_rV, ↓p_if, cs_un, cs_fr, List.length_cons, List.length_nil, List.length_map, Nat.zero_add, insD_i, decide_eq_true_eq, Bool.not_eq_true', Bool.not_true, Bool.not_false, decide_eq_false_iff_not, true_and, and_true, ne_eq, not_false_eq_true, List.lookup_cons, Nat.reduceAdd, isN_non, isN_bl, isN_int, isN_str, isN_tup, isN_lst, ↓reduceIte]
    refine row_spec p1 (by omega) (by omega) (by omega) (by omega) (by omega) (by omega) (by omega) fun ds l2 hg hl p2 => ?_
    simp (decide := true) only [rowD, rowO, List.append_nil, List.cons_append, List.nil_append, ↓k_some, ↓k_no, ↓k_ite, ↓getK_0, ↓getK_s, ↓setK_0, ↓setK_s, ↓ff_0, ↓ff_s, ↓ff_o, ↓fo_l, ↓fo_i, ↓fk_fr, ↓fk_ow, ↓vk_fr, ↓vk_ow, ↓vw_fr, ↓vw_l, ↓mv_fr, ↓mv_ow, ↓sq_nx, ↓sq_bk, ↓sq_ct, ↓sq_rt, ↓fi_rt, ↓fi_nx, ↓ou_0, ↓ou_fr, ↓ou_ow, ↓ou_un, ↓ou_of, ↓ou_on, ↓un_00, ↓un_0s, ↓un_s, ↓rk_fr, ↓rk_un, ↓rk_ow, ↓ak_l, ↓lk_l, ↓si_l, ↓ls_0, ↓ls_s, ↓gb_fr, ↓gb_ow, ↓rb_fr, ↓rb_ow, ↓to_0, ↓to_v, ↓to_b, ↓to_map, ↓to_mapn, ↓tb_fr, ↓tb_ow, ↓bk_0, ↓bk_v, ↓bk_bi, ↓ba_0, ↓ba_s, ↓bk_mapf, ↓bk_mapn, ↓bb_fr, ↓bb_ow, ↓ui_un, ↓set_tag, ↓set_tagf, ↓df_0, ↓sp_0, ↓sp_n, ↓sp_s, ↓fs_0, ↓fs_s, ↓fs_map, ↓ct_0, ↓ct_fr, ↓ct_un, ↓ct_ow, ↓ap_00, ↓ap_0s, ↓ap_s, ↓as_0, ↓as_s, ↓in_v, ↓in_b, ↓ib_fr, ↓ib_ow, ↓fl_v, ↓fr_fd, ↓fl_b, ↓fb_fr, ↓fb_ow, ↓get_look, ↓ln_i, ↓sf_fr, ↓sf_ow, ↓mk_r, ↓w_var, ↓w_view, ↓w_lift, ↓w_frz, ↓w_m1, ↓w_m2, ↓w_mV2, ↓w_m2V, ↓w_tst, ↓w_isN, ↓w_notN, ↓bv_bl, ↓w_andV, ↓w_orV, ↓nv_bl, ↓w_notV, ↓w_ch, ↓pt_i, ↓w_part, ↓w_sl, ↓w_slV, ↓w_cal, ↓w_lenV, ↓w_is, ↓w_isO, ↓w_put, ↓w_set, ↓w_move, ↓w_seq, ↓w_asg, ↓w_app, ↓w_setI, ↓w_items, ↓w_gB, ↓w_rB, ↓w_cl, ↓w_callA, ↓w_gStar, ↓w_fld, ↓get_d1, ↓w_mth, ↓w_mthS, ↓w_prp, ↓w_lenO, ↓w_own2, ↓w_ownB, ↓w_augO, ↓w_setF, ↓w_fn, ↓w_mk, ↓w_arg, ↓w_any, ↓w_kw, ↓selR, ↓selA, ↓sQ_0, ↓sQ_s, ↓st_nx, ↓st_ct, ↓st_bk, ↓st_rt, ↓w_lc, ↓g_ixt, ↓g_ixl, ↓g_ixs, ↓at_0, ↓at_1, ↓at_2, ↓at_3, ↓ix_0, ↓ix_1, ↓ix_2, ↓g_addi, ↓g_adds, ↓g_addt, ↓g_addl, ↓g_muli, ↓g_mult, ↓g_mull, ↓g_sub, ↓g_div, ↓g_mod, ↓g_pow, ↓g_bD, ↓g_lt, ↓g_le, ↓g_gt, ↓g_ge, ↓g_neg, ↓g_bl, ↓g_int, ↓g_lent, ↓g_lenl, ↓g_lens, ↓g_list, ↓g_lisl, ↓g_tupt, ↓g_tupl, ↓g_max, ↓g_min, ↓g_itt, ↓g_itl, ↓g_its, ↓g_slt, ↓g_sll, ↓g_sls, ↓g_rng1, ↓g_rng2, ↓g_enum, ↓g_nm, ↓g_tp, ↓g_gc, ↓g_gn, ↓g_isIntD_non, ↓g_isIntD_bl, ↓g_isIntD_int, ↓g_isIntD_str, ↓g_isIntD_tup, ↓g_isIntD_lst, ↓g_isBoolD_non, ↓g_isBoolD_bl, ↓g_isBoolD_int, ↓g_isBoolD_str, ↓g_isBoolD_tup, ↓g_isBoolD_lst, ↓g_isTupD_non, ↓g_isTupD_bl, ↓g_isTupD_int, ↓g_isTupD_str, ↓g_isTupD_tup, ↓g_isTupD_lst, ↓g_isStrD_non, ↓g_isStrD_bl, ↓g_isStrD_int, ↓g_isStrD_str, ↓g_isStrD_tup, ↓g_isStrD_lst, ↓g_own_non, ↓g_own_bl, ↓g_own_int, ↓g_own_str, ↓g_own_tup, ↓g_own_lst, ↓g_own_ins, ↓g_eqi, ↓g_eqs, ↓g_nei, ↓g_nes, ↓p_bnd, ↓p_ret, ↓p_none, ↓p_fr, ↓p_and, ↓p_or, ↓p_not, ↓p_ifE, ↓p_bl, ↓p_nil, ↓p_cons, ↓p_tup, ↓p_lst, ↓p_drop, ↓p_rt, ↓p_mif, ↓p_for, ↓p_gNil, ↓p_gV, ↓p_gApp, ↓p_rV, ↓p_if, cs_un, cs_fr, List.length_cons, List.length_nil, List.length_map, Nat.zero_add, insD_i, decide_eq_true_eq, Bool.not_eq_true', Bool.not_true, Bool.not_false, decide_eq_false_iff_not, true_and, and_true, ne_eq, not_false_eq_true, List.lookup_cons, Nat.reduceAdd, isN_non, isN_bl, isN_int, isN_str, isN_tup, isN_lst, ↓reduceIte]
    refine row_spec p2 (by omega) (by omega) (by omega) (by omega) (by omega) (by omega) (by omega) fun es l3 hg2 hl2 p3 => ?_
    simp (decide := true) only [rowD, rowO, List.append_nil, List.cons_append, List.nil_append, ↓k_some, ↓k_no, ↓k_ite, ↓getK_0, ↓getK_s, ↓setK_0, ↓setK_s, ↓ff_0, ↓ff_s, ↓ff_o, ↓fo_l, ↓fo_i, ↓fk_fr, ↓fk_ow, ↓vk_fr, ↓vk_ow, ↓vw_fr, ↓vw_l, ↓mv_fr, ↓mv_ow, ↓sq_nx, ↓sq_bk, ↓sq_ct, ↓sq_rt, ↓fi_rt, ↓fi_nx, ↓ou_0, ↓ou_fr, ↓ou_ow, ↓ou_un, ↓ou_of, ↓ou_on, ↓un_00, ↓un_0s, ↓un_s, ↓rk_fr, ↓rk_un, ↓rk_ow, ↓ak_l, ↓lk_l, ↓si_l, ↓ls_0, ↓ls_s, ↓gb_fr, ↓gb_ow, ↓rb_fr, ↓rb_ow, ↓to_0, ↓to_v, ↓to_b, ↓to_map, ↓to_mapn, ↓tb_fr, ↓tb_ow, ↓bk_0, ↓bk_v, ↓bk_bi, ↓ba_0, ↓ba_s, ↓bk_mapf, ↓bk_mapn, ↓bb_fr, ↓bb_ow, ↓ui_un, ↓set_tag, ↓set_tagf, ↓df_0, ↓sp_0, ↓sp_n, ↓sp_s, ↓fs_0, ↓fs_s, ↓fs_map, ↓ct_0, ↓ct_fr, ↓ct_un, ↓ct_ow, ↓ap_00, ↓ap_0s, ↓ap_s, ↓as_0, ↓as_s, ↓in_v, ↓in_b, ↓ib_fr, ↓ib_ow, ↓fl_v, ↓fr_fd, ↓fl_b, ↓fb_fr, ↓fb_ow, ↓get_look, ↓ln_i, ↓sf_fr, ↓sf_ow, ↓mk_r, ↓w_var, ↓w_view, ↓w_lift, ↓w_frz, ↓w_m1, ↓w_m2, ↓w_mV2, ↓w_m2V, ↓w_tst, ↓w_isN, ↓w_notN, ↓bv_bl, ↓w_andV, ↓w_orV, ↓nv_bl, ↓w_notV, ↓w_ch, ↓pt_i, ↓w_part, ↓w_sl, ↓w_slV, ↓w_cal, ↓w_lenV, ↓w_is, ↓w_isO, ↓w_put, ↓w_set, ↓w_move, ↓w_seq, ↓w_asg, ↓w_app, ↓w_setI, ↓w_items, ↓w_gB, ↓w_rB, ↓w_cl, ↓w_callA, ↓w_gStar, ↓w_fld, ↓get_d1, ↓w_mth, ↓w_mthS, ↓w_prp, ↓w_lenO, ↓w_own2, ↓w_ownB, ↓w_augO, ↓w_setF, ↓w_fn, ↓w_mk, ↓w_arg, ↓w_any, ↓w_kw, ↓selR, ↓selA, ↓sQ_0, ↓sQ_s, ↓st_nx, ↓st_ct, ↓st_bk, ↓st_rt, ↓w_lc, ↓g_ixt, ↓g_ixl, ↓g_ixs, ↓at_0, ↓at_1, ↓at_2, ↓at_3, ↓ix_0, ↓ix_1, ↓ix_2, ↓g_addi, ↓g_adds, ↓g_addt, ↓g_addl, ↓g_muli, ↓g_mult, ↓g_mull, ↓g_sub, ↓g_div, ↓g_mod, ↓g_pow, ↓g_bD, ↓g_lt, ↓g_le, ↓g_gt, ↓g_ge, ↓g_neg, ↓g_bl, ↓g_int, ↓g_lent, ↓g_lenl, ↓g_lens, ↓g_list, ↓g_lisl, ↓g_tupt, ↓g_tupl, ↓g_max, ↓g_min, ↓g_itt, ↓g_itl, ↓g_its, ↓g_slt, ↓g_sll, ↓g_sls, ↓g_rng1, ↓g_rng2, ↓g_enum, ↓g_nm, ↓g_tp, ↓g_gc, ↓g_gn, ↓g_isIntD_non, ↓g_isIntD_bl, ↓g_isIntD_int, ↓g_isIntD_str, ↓g_isIntD_tup, ↓g_isIntD_lst, ↓g_isBoolD_non, ↓g_isBoolD_bl, ↓g_isBoolD_int, ↓g_isBoolD_str, ↓g_isBoolD_tup, ↓g_isBoolD_lst, ↓g_isTupD_non, ↓g_isTupD_bl, ↓g_isTupD_int, ↓g_isTupD_str, ↓g_isTupD_tup, ↓g_isTupD_lst, ↓g_isStrD_non, ↓g_isStrD_bl, ↓g_isStrD_int, ↓g_isStrD_str, ↓g_isStrD_tup, ↓g_isStrD_lst, ↓g_own_non, ↓g_own_bl, ↓g_own_int, ↓g_own_str, ↓g_own_tup, ↓g_own_lst, ↓g_own_ins, ↓g_eqi, ↓g_eqs, ↓g_nei, ↓g_nes, ↓p_bnd, ↓p_ret, ↓p_none, ↓p_fr, ↓p_and, ↓p_or, ↓p_not, ↓p_ifE, ↓p_bl, ↓p_nil, ↓p_cons, ↓p_tup, ↓p_lst, ↓p_drop, ↓p_rt, ↓p_mif, ↓p_for, ↓p_gNil, ↓p_gV, ↓p_gApp, ↓p_rV, ↓p_if, cs_un, cs_fr, List.length_cons, List.length_nil, List.length_map, Nat.zero_add, insD_i, decide_eq_true_eq, Bool.not_eq_true', Bool.not_true, Bool.not_false, decide_eq_false_iff_not, true_and, and_true, ne_eq, not_false_eq_true, List.lookup_cons, Nat.reduceAdd, isN_non, isN_bl, isN_int, isN_str, isN_tup, isN_lst, ↓reduceIte]
    refine made_spec p3 (by omega) ht hg (by omega) fun l4 p4 => ?_
    simp (decide := true) only [rowD, rowO, List.append_nil, List.cons_append, List.nil_append, ↓k_some, ↓k_no, ↓k_ite, ↓getK_0, ↓getK_s, ↓setK_0, ↓setK_s, ↓ff_0, ↓ff_s, ↓ff_o, ↓fo_l, ↓fo_i, ↓fk_fr, ↓fk_ow, ↓vk_fr, ↓vk_ow, ↓vw_fr, ↓vw_l, ↓mv_fr, ↓mv_ow, ↓sq_nx, ↓sq_bk, ↓sq_ct, ↓sq_rt, ↓fi_rt, ↓fi_nx, ↓ou_0, ↓ou_fr, ↓ou_ow, ↓ou_un, ↓ou_of, ↓ou_on, ↓un_00, ↓un_0s, ↓un_s, ↓rk_fr, ↓rk_un, ↓rk_ow, ↓ak_l, ↓lk_l, ↓si_l, ↓ls_0, ↓ls_s, ↓gb_fr, ↓gb_ow, ↓rb_fr, ↓rb_ow, ↓to_0, ↓to_v, ↓to_b, ↓to_map, ↓to_mapn, ↓tb_fr, ↓tb_ow, ↓bk_0, ↓bk_v, ↓bk_bi, ↓ba_0, ↓ba_s, ↓bk_mapf, ↓bk_mapn, ↓bb_fr, ↓bb_ow, ↓ui_un, ↓set_tag, ↓set_tagf, ↓df_0, ↓sp_0, ↓sp_n, ↓sp_s, ↓fs_0, ↓fs_s, ↓fs_map, ↓ct_0, ↓ct_fr, ↓ct_un, ↓ct_ow, ↓ap_00, ↓ap_0s, ↓ap_s, ↓as_0, ↓as_s, ↓in_v, ↓in_b, ↓ib_fr, ↓ib_ow, ↓fl_v, ↓fr_fd, ↓fl_b, ↓fb_fr, ↓fb_ow, ↓get_look, ↓ln_i, ↓sf_fr, ↓sf_ow, ↓mk_r, ↓w_var, ↓w_view, ↓w_lift, ↓w_frz, ↓w_m1, ↓w_m2, ↓w_mV2, ↓w_m2V, ↓w_tst, ↓w_isN, ↓w_notN, ↓bv_bl, ↓w_andV, ↓w_orV, ↓nv_bl, ↓w_notV, ↓w_ch, ↓pt_i, ↓w_part, ↓w_sl, ↓w_slV, ↓w_cal, ↓w_lenV, ↓w_is, ↓w_isO, ↓w_put, ↓w_set, ↓w_move, ↓w_seq, ↓w_asg, ↓w_app, ↓w_setI, ↓w_items, ↓w_gB, ↓w_rB, ↓w_cl, ↓w_callA, ↓w_gStar, ↓w_fld, ↓get_d1, ↓w_mth, ↓w_mthS, ↓w_prp, ↓w_lenO, ↓w_own2, ↓w_ownB, ↓w_augO, ↓w_setF, ↓w_fn, ↓w_mk, ↓w_arg, ↓w_any, ↓w_kw, ↓selR, ↓selA, ↓sQ_0, ↓sQ_s, ↓st_nx, ↓st_ct, ↓st_bk, ↓st_rt, ↓w_lc, ↓g_ixt, ↓g_ixl, ↓g_ixs, ↓at_0, ↓at_1, ↓at_2, ↓at_3, ↓ix_0, ↓ix_1, ↓ix_2, ↓g_addi, ↓g_adds, ↓g_addt, ↓g_addl, ↓g_muli, ↓g_mult, ↓g_mull, ↓g_sub, ↓g_div, ↓g_mod, ↓g_pow, ↓g_bD, ↓g_lt, ↓g_le, ↓g_gt, ↓g_ge, ↓g_neg, ↓g_bl, ↓g_int, ↓g_lent, ↓g_lenl, ↓g_lens, ↓g_list, ↓g_lisl, ↓g_tupt, ↓g_tupl, ↓g_max, ↓g_min, ↓g_itt, ↓g_itl, ↓g_its, ↓g_slt, ↓g_sll, ↓g_sls, ↓g_rng1, ↓g_rng2, ↓g_enum, ↓g_nm, ↓g_tp, ↓g_gc, ↓g_gn, ↓g_isIntD_non, ↓g_isIntD_bl, ↓g_isIntD_int, ↓g_isIntD_str, ↓g_isIntD_tup, ↓g_isIntD_lst, ↓g_isBoolD_non, ↓g_isBoolD_bl, ↓g_isBoolD_int, ↓g_isBoolD_str, ↓g_isBoolD_tup, ↓g_isBoolD_lst, ↓g_isTupD_non, ↓g_isTupD_bl, ↓g_isTupD_int, ↓g_isTupD_str, ↓g_isTupD_tup, ↓g_isTupD_lst, ↓g_isStrD_non, ↓g_isStrD_bl, ↓g_isStrD_int, ↓g_isStrD_str, ↓g_isStrD_tup, ↓g_isStrD_lst, ↓g_own_non, ↓g_own_bl, ↓g_own_int, ↓g_own_str, ↓g_own_tup, ↓g_own_lst, ↓g_own_ins, ↓g_eqi, ↓g_eqs, ↓g_nei, ↓g_nes, ↓p_bnd, ↓p_ret, ↓p_none, ↓p_fr, ↓p_and, ↓p_or, ↓p_not, ↓p_ifE, ↓p_bl, ↓p_nil, ↓p_cons, ↓p_tup, ↓p_lst, ↓p_drop, ↓p_rt, ↓p_mif, ↓p_for, ↓p_gNil, ↓p_gV, ↓p_gApp, ↓p_rV, ↓p_if, cs_un, cs_fr, List.length_cons, List.length_nil, List.length_map, Nat.zero_add, insD_i, decide_eq_true_eq, Bool.not_eq_true', Bool.not_true, Bool.not_false, decide_eq_false_iff_not, true_and, and_true, ne_eq, not_false_eq_true, List.lookup_cons, Nat.reduceAdd, isN_non, isN_bl, isN_int, isN_str, isN_tup, isN_lst, ↓reduceIte]
    refine made_spec p4 (by omega) ht hg2 (by omega) fun l5 p5 => ?_
    simp (decide := true) only [rowD, rowO, List.append_nil, List.cons_append, List.nil_append, ↓k_some, ↓k_no, ↓k_ite, ↓getK_0, ↓getK_s, ↓setK_0, ↓setK_s, ↓ff_0, ↓ff_s, ↓ff_o, ↓fo_l, ↓fo_i, ↓fk_fr, ↓fk_ow, ↓vk_fr, ↓vk_ow, ↓vw_fr, ↓vw_l, ↓mv_fr, ↓mv_ow, ↓sq_nx, ↓sq_bk, ↓sq_ct, ↓sq_rt, ↓fi_rt, ↓fi_nx, ↓ou_0, ↓ou_fr, ↓ou_ow, ↓ou_un, ↓ou_of, ↓ou_on, ↓un_00, ↓un_0s, ↓un_s, ↓rk_fr, ↓rk_un, ↓rk_ow, ↓ak_l, ↓lk_l, ↓si_l, ↓ls_0, ↓ls_s, ↓gb_fr, ↓gb_ow, ↓rb_fr, ↓rb_ow, ↓to_0, ↓to_v, ↓to_b, ↓to_map, ↓to_mapn, ↓tb_fr, ↓tb_ow, ↓bk_0, ↓bk_v, ↓bk_bi, ↓ba_0, ↓ba_s, ↓bk_mapf, ↓bk_mapn, ↓bb_fr, ↓bb_ow, ↓ui_un, ↓set_tag, ↓set_tagf, ↓df_0, ↓sp_0, ↓sp_n, ↓sp_s, ↓fs_0, ↓fs_s, ↓fs_map, ↓ct_0, ↓ct_fr, ↓ct_un, ↓ct_ow, ↓ap_00, ↓ap_0s, ↓ap_s, ↓as_0, ↓as_s, ↓in_v, ↓in_b, ↓ib_fr, ↓ib_ow, ↓fl_v, ↓fr_fd, ↓fl_b, ↓fb_fr, ↓fb_ow, ↓get_look, ↓ln_i, ↓sf_fr, ↓sf_ow, ↓mk_r, ↓w_var, ↓w_view, ↓w_lift, ↓w_frz, ↓w_m1, ↓w_m2, ↓w_mV2, ↓w_m2V, ↓w_tst, ↓w_isN, ↓w_notN, ↓bv_bl, ↓w_andV, ↓w_orV, ↓nv_bl, ↓w_notV, ↓w_ch, ↓pt_i, ↓w_part, ↓w_sl, ↓w_slV, ↓w_cal, ↓w_lenV, ↓w_is, ↓w_isO, ↓w_put, ↓w_set, ↓w_move, ↓w_seq, ↓w_asg, ↓w_app, ↓w_setI, ↓w_items, ↓w_gB, ↓w_rB, ↓w_cl, ↓w_callA, ↓w_gStar, ↓w_fld, ↓get_d1, ↓w_mth, ↓w_mthS, ↓w_prp, ↓w_lenO, ↓w_own2, ↓w_ownB, ↓w_augO, ↓w_setF, ↓w_fn, ↓w_mk, ↓w_arg, ↓w_any, ↓w_kw, ↓selR, ↓selA, ↓sQ_0, ↓sQ_s, ↓st_nx, ↓st_ct, ↓st_bk, ↓st_rt, ↓w_lc, ↓g_ixt, ↓g_ixl, ↓g_ixs, ↓at_0, ↓at_1, ↓at_2, ↓at_3, ↓ix_0, ↓ix_1, ↓ix_2, ↓g_addi, ↓g_adds, ↓g_addt, ↓g_addl, ↓g_muli, ↓g_mult, ↓g_mull, ↓g_sub, ↓g_div, ↓g_mod, ↓g_pow, ↓g_bD, ↓g_lt, ↓g_le, ↓g_gt, ↓g_ge, ↓g_neg, ↓g_bl, ↓g_int, ↓g_lent, ↓g_lenl, ↓g_lens, ↓g_list, ↓g_lisl, ↓g_tupt, ↓g_tupl, ↓g_max, ↓g_min, ↓g_itt, ↓g_itl, ↓g_its, ↓g_slt, ↓g_sll, ↓g_sls, ↓g_rng1, ↓g_rng2, ↓g_enum, ↓g_nm, ↓g_tp, ↓g_gc, ↓g_gn, ↓g_isIntD_non, ↓g_isIntD_bl, ↓g_isIntD_int, ↓g_isIntD_str, ↓g_isIntD_tup, ↓g_isIntD_lst, ↓g_isBoolD_non, ↓g_isBoolD_bl, ↓g_isBoolD_int, ↓g_isBoolD_str, ↓g_isBoolD_tup, ↓g_isBoolD_lst, ↓g_isTupD_non, ↓g_isTupD_bl, ↓g_isTupD_int, ↓g_isTupD_str, ↓g_isTupD_tup, ↓g_isTupD_lst, ↓g_isStrD_non, ↓g_isStrD_bl, ↓g_isStrD_int, ↓g_isStrD_str, ↓g_isStrD_tup, ↓g_isStrD_lst, ↓g_own_non, ↓g_own_bl, ↓g_own_int, ↓g_own_str, ↓g_own_tup, ↓g_own_lst, ↓g_own_ins, ↓g_eqi, ↓g_eqs, ↓g_nei, ↓g_nes, ↓p_bnd, ↓p_ret, ↓p_none, ↓p_fr, ↓p_and, ↓p_or, ↓p_not, ↓p_ifE, ↓p_bl, ↓p_nil, ↓p_cons, ↓p_tup, ↓p_lst, ↓p_drop, ↓p_rt, ↓p_mif, ↓p_for, ↓p_gNil, ↓p_gV, ↓p_gApp, ↓p_rV, ↓p_if, cs_un, cs_fr, List.length_cons, List.length_nil, List.length_map, Nat.zero_add, insD_i, decide_eq_true_eq, Bool.not_eq_true', Bool.not_true, Bool.not_false, decide_eq_false_iff_not, true_and, and_true, ne_eq, not_false_eq_true, List.lookup_cons, Nat.reduceAdd, isN_non, isN_bl, isN_int, isN_str, isN_tup, isN_lst, ↓reduceIte]
    refine fields_spec ht hg (by omega) ?_
    simp (decide := true) only [rowD, rowO, List.append_nil, List.cons_append, List.nil_append, ↓k_some, ↓k_no, ↓k_ite, ↓getK_0, ↓getK_s, ↓setK_0, ↓setK_s, ↓ff_0, ↓ff_s, ↓ff_o, ↓fo_l, ↓fo_i, ↓fk_fr, ↓fk_ow, ↓vk_fr, ↓vk_ow, ↓vw_fr, ↓vw_l, ↓mv_fr, ↓mv_ow, ↓sq_nx, ↓sq_bk, ↓sq_ct, ↓sq_rt, ↓fi_rt, ↓fi_nx, ↓ou_0, ↓ou_fr, ↓ou_ow, ↓ou_un, ↓ou_of, ↓ou_on, ↓un_00, ↓un_0s, ↓un_s, ↓rk_fr, ↓rk_un, ↓rk_ow, ↓ak_l, ↓lk_l, ↓si_l, ↓ls_0, ↓ls_s, ↓gb_fr, ↓gb_ow, ↓rb_fr, ↓rb_ow, ↓to_0, ↓to_v, ↓to_b, ↓to_map, ↓to_mapn, ↓tb_fr, ↓tb_ow, ↓bk_0, ↓bk_v, ↓bk_bi, ↓ba_0, ↓ba_s, ↓bk_mapf, ↓bk_mapn, ↓bb_fr, ↓bb_ow, ↓ui_un, ↓set_tag, ↓set_tagf, ↓df_0, ↓sp_0, ↓sp_n, ↓sp_s, ↓fs_0, ↓fs_s, ↓fs_map, ↓ct_0, ↓ct_fr, ↓ct_un, ↓ct_ow, ↓ap_00, ↓ap_0s, ↓ap_s, ↓as_0, ↓as_s, ↓in_v, ↓in_b, ↓ib_fr, ↓ib_ow, ↓fl_v, ↓fr_fd, ↓fl_b, ↓fb_fr, ↓fb_ow, ↓get_look, ↓ln_i, ↓sf_fr, ↓sf_ow, ↓mk_r, ↓w_var, ↓w_view, ↓w_lift, ↓w_frz, ↓w_m1, ↓w_m2, ↓w_mV2, ↓w_m2V, ↓w_tst, ↓w_isN, ↓w_notN, ↓bv_bl, ↓w_andV, ↓w_orV, ↓nv_bl, ↓w_notV, ↓w_ch, ↓pt_i, ↓w_part, ↓w_sl, ↓w_slV, ↓w_cal, ↓w_lenV, ↓w_is, ↓w_isO, ↓w_put, ↓w_set, ↓w_move, ↓w_seq, ↓w_asg, ↓w_app, ↓w_setI, ↓w_items, ↓w_gB, ↓w_rB, ↓w_cl, ↓w_callA, ↓w_gStar, ↓w_fld, ↓get_d1, ↓w_mth, ↓w_mthS, ↓w_prp, ↓w_lenO, ↓w_own2, ↓w_ownB, ↓w_augO, ↓w_setF, ↓w_fn, ↓w_mk, ↓w_arg, ↓w_any, ↓w_kw, ↓selR, ↓selA, ↓sQ_0, ↓sQ_s, ↓st_nx, ↓st_ct, ↓st_bk, ↓st_rt, ↓w_lc, ↓g_ixt, ↓g_ixl, ↓g_ixs, ↓at_0, ↓at_1, ↓at_2, ↓at_3, ↓ix_0, ↓ix_1, ↓ix_2, ↓g_addi, ↓g_adds, ↓g_addt, ↓g_addl, ↓g_muli, ↓g_mult, ↓g_mull, ↓g_sub, ↓g_div, ↓g_mod, ↓g_pow, ↓g_bD, ↓g_lt, ↓g_le, ↓g_gt, ↓g_ge, ↓g_neg, ↓g_bl, ↓g_int, ↓g_lent, ↓g_lenl, ↓g_lens, ↓g_list, ↓g_lisl, ↓g_tupt, ↓g_tupl, ↓g_max, ↓g_min, ↓g_itt, ↓g_itl, ↓g_its, ↓g_slt, ↓g_sll, ↓g_sls, ↓g_rng1, ↓g_rng2, ↓g_enum, ↓g_nm, ↓g_tp, ↓g_gc, ↓g_gn, ↓g_isIntD_non, ↓g_isIntD_bl, ↓g_isIntD_int, ↓g_isIntD_str, ↓g_isIntD_tup, ↓g_isIntD_lst, ↓g_isBoolD_non, ↓g_isBoolD_bl, ↓g_isBoolD_int, ↓g_isBoolD_str, ↓g_isBoolD_tup, ↓g_isBoolD_lst, ↓g_isTupD_non, ↓g_isTupD_bl, ↓g_isTupD_int, ↓g_isTupD_str, ↓g_isTupD_tup, ↓g_isTupD_lst, ↓g_isStrD_non, ↓g_isStrD_bl, ↓g_isStrD_int, ↓g_isStrD_str, ↓g_isStrD_tup, ↓g_isStrD_lst, ↓g_own_non, ↓g_own_bl, ↓g_own_int, ↓g_own_str, ↓g_own_tup, ↓g_own_lst, ↓g_own_ins, ↓g_eqi, ↓g_eqs, ↓g_nei, ↓g_nes, ↓p_bnd, ↓p_ret, ↓p_none, ↓p_fr, ↓p_and, ↓p_or, ↓p_not, ↓p_ifE, ↓p_bl, ↓p_nil, ↓p_cons, ↓p_tup, ↓p_lst, ↓p_drop, ↓p_rt, ↓p_mif, ↓p_for, ↓p_gNil, ↓p_gV, ↓p_gApp, ↓p_rV, ↓p_if, cs_un, cs_fr, List.length_cons, List.length_nil, List.length_map, Nat.zero_add, insD_i, decide_eq_true_eq, Bool.not_eq_true', Bool.not_true, Bool.not_false, decide_eq_false_iff_not, true_and, and_true, ne_eq, not_false_eq_true, List.lookup_cons, Nat.reduceAdd, isN_non, isN_bl, isN_int, isN_str, isN_tup, isN_lst, ↓reduceIte]
    refine fields_spec ht hg2 (by omega) ?_
    simp (decide := true) only [rowD, rowO, List.append_nil, List.cons_append, List.nil_append, ↓k_some, ↓k_no, ↓k_ite, ↓getK_0, ↓getK_s, ↓setK_0, ↓setK_s, ↓ff_0, ↓ff_s, ↓ff_o, ↓fo_l, ↓fo_i, ↓fk_fr, ↓fk_ow, ↓vk_fr, ↓vk_ow, ↓vw_fr, ↓vw_l, ↓mv_fr, ↓mv_ow, ↓sq_nx, ↓sq_bk, ↓sq_ct, ↓sq_rt, ↓fi_rt, ↓fi_nx, ↓ou_0, ↓ou_fr, ↓ou_ow, ↓ou_un, ↓ou_of, ↓ou_on, ↓un_00, ↓un_0s, ↓un_s, ↓rk_fr, ↓rk_un, ↓rk_ow, ↓ak_l, ↓lk_l, ↓si_l, ↓ls_0, ↓ls_s, ↓gb_fr, ↓gb_ow, ↓rb_fr, ↓rb_ow, ↓to_0, ↓to_v, ↓to_b, ↓to_map, ↓to_mapn, ↓tb_fr, ↓tb_ow, ↓bk_0, ↓bk_v, ↓bk_bi, ↓ba_0, ↓ba_s, ↓bk_mapf, ↓bk_mapn, ↓bb_fr, ↓bb_ow, ↓ui_un, ↓set_tag, ↓set_tagf, ↓df_0, ↓sp_0, ↓sp_n, ↓sp_s, ↓fs_0, ↓fs_s, ↓fs_map, ↓ct_0, ↓ct_fr, ↓ct_un, ↓ct_ow, ↓ap_00, ↓ap_0s, ↓ap_s, ↓as_0, ↓as_s, ↓in_v, ↓in_b, ↓ib_fr, ↓ib_ow, ↓fl_v, ↓fr_fd, ↓fl_b, ↓fb_fr, ↓fb_ow, ↓get_look, ↓ln_i, ↓sf_fr, ↓sf_ow, ↓mk_r, ↓w_var, ↓w_view, ↓w_lift, ↓w_frz, ↓w_m1, ↓w_m2, ↓w_mV2, ↓w_m2V, ↓w_tst, ↓w_isN, ↓w_notN, ↓bv_bl, ↓w_andV, ↓w_orV, ↓nv_bl, ↓w_notV, ↓w_ch, ↓pt_i, ↓w_part, ↓w_sl, ↓w_slV, ↓w_cal, ↓w_lenV, ↓w_is, ↓w_isO, ↓w_put, ↓w_set, ↓w_move, ↓w_seq, ↓w_asg, ↓w_app, ↓w_setI, ↓w_items, ↓w_gB, ↓w_rB, ↓w_cl, ↓w_callA, ↓w_gStar, ↓w_fld, ↓get_d1, ↓w_mth, ↓w_mthS, ↓w_prp, ↓w_lenO, ↓w_own2, ↓w_ownB, ↓w_augO, ↓w_setF, ↓w_fn, ↓w_mk, ↓w_arg, ↓w_any, ↓w_kw, ↓selR, ↓selA, ↓sQ_0, ↓sQ_s, ↓st_nx, ↓st_ct, ↓st_bk, ↓st_rt, ↓w_lc, ↓g_ixt, ↓g_ixl, ↓g_ixs, ↓at_0, ↓at_1, ↓at_2, ↓at_3, ↓ix_0, ↓ix_1, ↓ix_2, ↓g_addi, ↓g_adds, ↓g_addt, ↓g_addl, ↓g_muli, ↓g_mult, ↓g_mull, ↓g_sub, ↓g_div, ↓g_mod, ↓g_pow, ↓g_bD, ↓g_lt, ↓g_le, ↓g_gt, ↓g_ge, ↓g_neg, ↓g_bl, ↓g_int, ↓g_lent, ↓g_lenl, ↓g_lens, ↓g_list, ↓g_lisl, ↓g_tupt, ↓g_tupl, ↓g_max, ↓g_min, ↓g_itt, ↓g_itl, ↓g_its, ↓g_slt, ↓g_sll, ↓g_sls, ↓g_rng1, ↓g_rng2, ↓g_enum, ↓g_nm, ↓g_tp, ↓g_gc, ↓g_gn, ↓g_isIntD_non, ↓g_isIntD_bl, ↓g_isIntD_int, ↓g_isIntD_str, ↓g_isIntD_tup, ↓g_isIntD_lst, ↓g_isBoolD_non, ↓g_isBoolD_bl, ↓g_isBoolD_int, ↓g_isBoolD_str, ↓g_isBoolD_tup, ↓g_isBoolD_lst, ↓g_isTupD_non, ↓g_isTupD_bl, ↓g_isTupD_int, ↓g_isTupD_str, ↓g_isTupD_tup, ↓g_isTupD_lst, ↓g_isStrD_non, ↓g_isStrD_bl, ↓g_isStrD_int, ↓g_isStrD_str, ↓g_isStrD_tup, ↓g_isStrD_lst, ↓g_own_non, ↓g_own_bl, ↓g_own_int, ↓g_own_str, ↓g_own_tup, ↓g_own_lst, ↓g_own_ins, ↓g_eqi, ↓g_eqs, ↓g_nei, ↓g_nes, ↓p_bnd, ↓p_ret, ↓p_none, ↓p_fr, ↓p_and, ↓p_or, ↓p_not, ↓p_ifE, ↓p_bl, ↓p_nil, ↓p_cons, ↓p_tup, ↓p_lst, ↓p_drop, ↓p_rt, ↓p_mif, ↓p_for, ↓p_gNil, ↓p_gV, ↓p_gApp, ↓p_rV, ↓p_if, cs_un, cs_fr, List.length_cons, List.length_nil, List.length_map, Nat.zero_add, insD_i, decide_eq_true_eq, Bool.not_eq_true', Bool.not_true, Bool.not_false, decide_eq_false_iff_not, true_and, and_true, ne_eq, not_false_eq_true, List.lookup_cons, Nat.reduceAdd, isN_non, isN_bl, isN_int, isN_str, isN_tup, isN_lst, ↓reduceIte]
    refine gate_spec p5 (by omega) (by omega) (by omega) (by omega) (by omega) fun g l6 hd p6 => ?_
    simp (decide := true) only [rowD, rowO, List.append_nil, List.cons_append, List.nil_append, ↓k_some, ↓k_no, ↓k_ite, ↓getK_0, ↓getK_s, ↓setK_0, ↓setK_s, ↓ff_0, ↓ff_s, ↓ff_o, ↓fo_l, ↓fo_i, ↓fk_fr, ↓fk_ow, ↓vk_fr, ↓vk_ow, ↓vw_fr, ↓vw_l, ↓mv_fr, ↓mv_ow, ↓sq_nx, ↓sq_bk, ↓sq_ct, ↓sq_rt, ↓fi_rt, ↓fi_nx, ↓ou_0, ↓ou_fr, ↓ou_ow, ↓ou_un, ↓ou_of, ↓ou_on, ↓un_00, ↓un_0s, ↓un_s, ↓rk_fr, ↓rk_un, ↓rk_ow, ↓ak_l, ↓lk_l, ↓si_l, ↓ls_0, ↓ls_s, ↓gb_fr, ↓gb_ow, ↓rb_fr, ↓rb_ow, ↓to_0, ↓to_v, ↓to_b, ↓to_map, ↓to_mapn, ↓tb_fr, ↓tb_ow, ↓bk_0, ↓bk_v, ↓bk_bi, ↓ba_0, ↓ba_s, ↓bk_mapf, ↓bk_mapn, ↓bb_fr, ↓bb_ow, ↓ui_un, ↓set_tag, ↓set_tagf, ↓df_0, ↓sp_0, ↓sp_n, ↓sp_s, ↓fs_0, ↓fs_s, ↓fs_map, ↓ct_0, ↓ct_fr, ↓ct_un, ↓ct_ow, ↓ap_00, ↓ap_0s, ↓ap_s, ↓as_0, ↓as_s, ↓in_v, ↓in_b, ↓ib_fr, ↓ib_ow, ↓fl_v, ↓fr_fd, ↓fl_b, ↓fb_fr, ↓fb_ow, ↓get_look, ↓ln_i, ↓sf_fr, ↓sf_ow, ↓mk_r, ↓w_var, ↓w_view, ↓w_lift, ↓w_frz, ↓w_m1, ↓w_m2, ↓w_mV2, ↓w_m2V, ↓w_tst, ↓w_isN, ↓w_notN, ↓bv_bl, ↓w_andV, ↓w_orV, ↓nv_bl, ↓w_notV, ↓w_ch, ↓pt_i, ↓w_part, ↓w_sl, ↓w_slV, ↓w_cal, ↓w_lenV, ↓w_is, ↓w_isO, ↓w_put, ↓w_set, ↓w_move, ↓w_seq, ↓w_asg, ↓w_app, ↓w_setI, ↓w_items, ↓w_gB, ↓w_rB, ↓w_cl, ↓w_callA, ↓w_gStar, ↓w_fld, ↓get_d1, ↓w_mth, ↓w_mthS, ↓w_prp, ↓w_lenO, ↓w_own2, ↓w_ownB, ↓w_augO, ↓w_setF, ↓w_fn, ↓w_mk, ↓w_arg, ↓w_any, ↓w_kw, ↓selR, ↓selA, ↓sQ_0, ↓sQ_s, ↓st_nx, ↓st_ct, ↓st_bk, ↓st_rt, ↓w_lc, ↓g_ixt, ↓g_ixl, ↓g_ixs, ↓at_0, ↓at_1, ↓at_2, ↓at_3, ↓ix_0, ↓ix_1, ↓ix_2, ↓g_addi, ↓g_adds, ↓g_addt, ↓g_addl, ↓g_muli, ↓g_mult, ↓g_mull, ↓g_sub, ↓g_div, ↓g_mod, ↓g_pow, ↓g_bD, ↓g_lt, ↓g_le, ↓g_gt, ↓g_ge, ↓g_neg, ↓g_bl, ↓g_int, ↓g_lent, ↓g_lenl, ↓g_lens, ↓g_list, ↓g_lisl, ↓g_tupt, ↓g_tupl, ↓g_max, ↓g_min, ↓g_itt, ↓g_itl, ↓g_its, ↓g_slt, ↓g_sll, ↓g_sls, ↓g_rng1, ↓g_rng2, ↓g_enum, ↓g_nm, ↓g_tp, ↓g_gc, ↓g_gn, ↓g_isIntD_non, ↓g_isIntD_bl, ↓g_isIntD_int, ↓g_isIntD_str, ↓g_isIntD_tup, ↓g_isIntD_lst, ↓g_isBoolD_non, ↓g_isBoolD_bl, ↓g_isBoolD_int, ↓g_isBoolD_str, ↓g_isBoolD_tup, ↓g_isBoolD_lst, ↓g_isTupD_non, ↓g_isTupD_bl, ↓g_isTupD_int, ↓g_isTupD_str, ↓g_isTupD_tup, ↓g_isTupD_lst, ↓g_isStrD_non, ↓g_isStrD_bl, ↓g_isStrD_int, ↓g_isStrD_str, ↓g_isStrD_tup, ↓g_isStrD_lst, ↓g_own_non, ↓g_own_bl, ↓g_own_int, ↓g_own_str, ↓g_own_tup, ↓g_own_lst, ↓g_own_ins, ↓g_eqi, ↓g_eqs, ↓g_nei, ↓g_nes, ↓p_bnd, ↓p_ret, ↓p_none, ↓p_fr, ↓p_and, ↓p_or, ↓p_not, ↓p_ifE, ↓p_bl, ↓p_nil, ↓p_cons, ↓p_tup, ↓p_lst, ↓p_drop, ↓p_rt, ↓p_mif, ↓p_for, ↓p_gNil, ↓p_gV, ↓p_gApp, ↓p_rV, ↓p_if, cs_un, cs_fr, List.length_cons, List.length_nil, List.length_map, Nat.zero_add, insD_i, decide_eq_true_eq, Bool.not_eq_true', Bool.not_true, Bool.not_false, decide_eq_false_iff_not, true_and, and_true, ne_eq, not_false_eq_true, List.lookup_cons, Nat.reduceAdd, isN_non, isN_bl, isN_int, isN_str, isN_tup, isN_lst, ↓reduceIte]
    refine grown_spec ht hg (by omega) hg2 (by omega) hd fun s1 => ?_
    simp (decide := true) only [rowD, rowO, List.append_nil, List.cons_append, List.nil_append, ↓k_some, ↓k_no, ↓k_ite, ↓getK_0, ↓getK_s, ↓setK_0, ↓setK_s, ↓ff_0, ↓ff_s, ↓ff_o, ↓fo_l, ↓fo_i, ↓fk_fr, ↓fk_ow, ↓vk_fr, ↓vk_ow, ↓vw_fr, ↓vw_l, ↓mv_fr, ↓mv_ow, ↓sq_nx, ↓sq_bk, ↓sq_ct, ↓sq_rt, ↓fi_rt, ↓fi_nx, ↓ou_0, ↓ou_fr, ↓ou_ow, ↓ou_un, ↓ou_of, ↓ou_on, ↓un_00, ↓un_0s, ↓un_s, ↓rk_fr, ↓rk_un, ↓rk_ow, ↓ak_l, ↓lk_l, ↓si_l, ↓ls_0, ↓ls_s, ↓gb_fr, ↓gb_ow, ↓rb_fr, ↓rb_ow, ↓to_0, ↓to_v, ↓to_b, ↓to_map, ↓to_mapn, ↓tb_fr, ↓tb_ow, ↓bk_0, ↓bk_v, ↓bk_bi, ↓ba_0, ↓ba_s, ↓bk_mapf, ↓bk_mapn, ↓bb_fr, ↓bb_ow, ↓ui_un, ↓set_tag, ↓set_tagf, ↓df_0, ↓sp_0, ↓sp_n, ↓sp_s, ↓fs_0, ↓fs_s, ↓fs_map, ↓ct_0, ↓ct_fr, ↓ct_un, ↓ct_ow, ↓ap_00, ↓ap_0s, ↓ap_s, ↓as_0, ↓as_s, ↓in_v, ↓in_b, ↓ib_fr, ↓ib_ow, ↓fl_v, ↓fr_fd, ↓fl_b, ↓fb_fr, ↓fb_ow, ↓get_look, ↓ln_i, ↓sf_fr, ↓sf_ow, ↓mk_r, ↓w_var, ↓w_view, ↓w_lift, ↓w_frz, ↓w_m1, ↓w_m2, ↓w_mV2, ↓w_m2V, ↓w_tst, ↓w_isN, ↓w_notN, ↓bv_bl, ↓w_andV, ↓w_orV, ↓nv_bl, ↓w_notV, ↓w_ch, ↓pt_i, ↓w_part, ↓w_sl, ↓w_slV, ↓w_cal, ↓w_lenV, ↓w_is, ↓w_isO, ↓w_put, ↓w_set, ↓w_move, ↓w_seq, ↓w_asg, ↓w_app, ↓w_setI, ↓w_items, ↓w_gB, ↓w_rB, ↓w_cl, ↓w_callA, ↓w_gStar, ↓w_fld, ↓get_d1, ↓w_mth, ↓w_mthS, ↓w_prp, ↓w_lenO, ↓w_own2, ↓w_ownB, ↓w_augO, ↓w_setF, ↓w_fn, ↓w_mk, ↓w_arg, ↓w_any, ↓w_kw, ↓selR, ↓selA, ↓sQ_0, ↓sQ_s, ↓st_nx, ↓st_ct, ↓st_bk, ↓st_rt, ↓w_lc, ↓g_ixt, ↓g_ixl, ↓g_ixs, ↓at_0, ↓at_1, ↓at_2, ↓at_3, ↓ix_0, ↓ix_1, ↓ix_2, ↓g_addi, ↓g_adds, ↓g_addt, ↓g_addl, ↓g_muli, ↓g_mult, ↓g_mull, ↓g_sub, ↓g_div, ↓g_mod, ↓g_pow, ↓g_bD, ↓g_lt, ↓g_le, ↓g_gt, ↓g_ge, ↓g_neg, ↓g_bl, ↓g_int, ↓g_lent, ↓g_lenl, ↓g_lens, ↓g_list, ↓g_lisl, ↓g_tupt, ↓g_tupl, ↓g_max, ↓g_min, ↓g_itt, ↓g_itl, ↓g_its, ↓g_slt, ↓g_sll, ↓g_sls, ↓g_rng1, ↓g_rng2, ↓g_enum, ↓g_nm, ↓g_tp, ↓g_gc, ↓g_gn, ↓g_isIntD_non, ↓g_isIntD_bl, ↓g_isIntD_int, ↓g_isIntD_str, ↓g_isIntD_tup, ↓g_isIntD_lst, ↓g_isBoolD_non, ↓g_isBoolD_bl, ↓g_isBoolD_int, ↓g_isBoolD_str, ↓g_isBoolD_tup, ↓g_isBoolD_lst, ↓g_isTupD_non, ↓g_isTupD_bl, ↓g_isTupD_int, ↓g_isTupD_str, ↓g_isTupD_tup, ↓g_isTupD_lst, ↓g_isStrD_non, ↓g_isStrD_bl, ↓g_isStrD_int, ↓g_isStrD_str, ↓g_isStrD_tup, ↓g_isStrD_lst, ↓g_own_non, ↓g_own_bl, ↓g_own_int, ↓g_own_str, ↓g_own_tup, ↓g_own_lst, ↓g_own_ins, ↓g_eqi, ↓g_eqs, ↓g_nei, ↓g_nes, ↓p_bnd, ↓p_ret, ↓p_none, ↓p_fr, ↓p_and, ↓p_or, ↓p_not, ↓p_ifE, ↓p_bl, ↓p_nil, ↓p_cons, ↓p_tup, ↓p_lst, ↓p_drop, ↓p_rt, ↓p_mif, ↓p_for, ↓p_gNil, ↓p_gV, ↓p_gApp, ↓p_rV, ↓p_if, cs_un, cs_fr, List.length_cons, List.length_nil, List.length_map, Nat.zero_add, insD_i, decide_eq_true_eq, Bool.not_eq_true', Bool.not_true, Bool.not_false, decide_eq_false_iff_not, true_and, and_true, ne_eq, not_false_eq_true, List.lookup_cons, Nat.reduceAdd, isN_non, isN_bl, isN_int, isN_str, isN_tup, isN_lst, ↓reduceIte]
    rw [show pick [1, 0] [D.tup es, D.tup t] = [D.tup t, D.tup es] from rfl]
    simp (decide := true) only [rowD, rowO, List.append_nil, List.cons_append, List.nil_append, ↓k_some, ↓k_no, ↓k_ite, ↓getK_0, ↓getK_s, ↓setK_0, ↓setK_s, ↓ff_0, ↓ff_s, ↓ff_o, ↓fo_l, ↓fo_i, ↓fk_fr, ↓fk_ow, ↓vk_fr, ↓vk_ow, ↓vw_fr, ↓vw_l, ↓mv_fr, ↓mv_ow, ↓sq_nx, ↓sq_bk, ↓sq_ct, ↓sq_rt, ↓fi_rt, ↓fi_nx, ↓ou_0, ↓ou_fr, ↓ou_ow, ↓ou_un, ↓ou_of, ↓ou_on, ↓un_00, ↓un_0s, ↓un_s, ↓rk_fr, ↓rk_un, ↓rk_ow, ↓ak_l, ↓lk_l, ↓si_l, ↓ls_0, ↓ls_s, ↓gb_fr, ↓gb_ow, ↓rb_fr, ↓rb_ow, ↓to_0, ↓to_v, ↓to_b, ↓to_map, ↓to_mapn, ↓tb_fr, ↓tb_ow, ↓bk_0, ↓bk_v, ↓bk_bi, ↓ba_0, ↓ba_s, ↓bk_mapf, ↓bk_mapn, ↓bb_fr, ↓bb_ow, ↓ui_un, ↓set_tag, ↓set_tagf, ↓df_0, ↓sp_0, ↓sp_n, ↓sp_s, ↓fs_0, ↓fs_s, ↓fs_map, ↓ct_0, ↓ct_fr, ↓ct_un, ↓ct_ow, ↓ap_00, ↓ap_0s, ↓ap_s, ↓as_0, ↓as_s, ↓in_v, ↓in_b, ↓ib_fr, ↓ib_ow, ↓fl_v, ↓fr_fd, ↓fl_b, ↓fb_fr, ↓fb_ow, ↓get_look, ↓ln_i, ↓sf_fr, ↓sf_ow, ↓mk_r, ↓w_var, ↓w_view, ↓w_lift, ↓w_frz, ↓w_m1, ↓w_m2, ↓w_mV2, ↓w_m2V, ↓w_tst, ↓w_isN, ↓w_notN, ↓bv_bl, ↓w_andV, ↓w_orV, ↓nv_bl, ↓w_notV, ↓w_ch, ↓pt_i, ↓w_part, ↓w_sl, ↓w_slV, ↓w_cal, ↓w_lenV, ↓w_is, ↓w_isO, ↓w_put, ↓w_set, ↓w_move, ↓w_seq, ↓w_asg, ↓w_app, ↓w_setI, ↓w_items, ↓w_gB, ↓w_rB, ↓w_cl, ↓w_callA, ↓w_gStar, ↓w_fld, ↓get_d1, ↓w_mth, ↓w_mthS, ↓w_prp, ↓w_lenO, ↓w_own2, ↓w_ownB, ↓w_augO, ↓w_setF, ↓w_fn, ↓w_mk, ↓w_arg, ↓w_any, ↓w_kw, ↓selR, ↓selA, ↓sQ_0, ↓sQ_s, ↓st_nx, ↓st_ct, ↓st_bk, ↓st_rt, ↓w_lc, ↓g_ixt, ↓g_ixl, ↓g_ixs, ↓at_0, ↓at_1, ↓at_2, ↓at_3, ↓ix_0, ↓ix_1, ↓ix_2, ↓g_addi, ↓g_adds, ↓g_addt, ↓g_addl, ↓g_muli, ↓g_mult, ↓g_mull, ↓g_sub, ↓g_div, ↓g_mod, ↓g_pow, ↓g_bD, ↓g_lt, ↓g_le, ↓g_gt, ↓g_ge, ↓g_neg, ↓g_bl, ↓g_int, ↓g_lent, ↓g_lenl, ↓g_lens, ↓g_list, ↓g_lisl, ↓g_tupt, ↓g_tupl, ↓g_max, ↓g_min, ↓g_itt, ↓g_itl, ↓g_its, ↓g_slt, ↓g_sll, ↓g_sls, ↓g_rng1, ↓g_rng2, ↓g_enum, ↓g_nm, ↓g_tp, ↓g_gc, ↓g_gn, ↓g_isIntD_non, ↓g_isIntD_bl, ↓g_isIntD_int, ↓g_isIntD_str, ↓g_isIntD_tup, ↓g_isIntD_lst, ↓g_isBoolD_non, ↓g_isBoolD_bl, ↓g_isBoolD_int, ↓g_isBoolD_str, ↓g_isBoolD_tup, ↓g_isBoolD_lst, ↓g_isTupD_non, ↓g_isTupD_bl, ↓g_isTupD_int, ↓g_isTupD_str, ↓g_isTupD_tup, ↓g_isTupD_lst, ↓g_isStrD_non, ↓g_isStrD_bl, ↓g_isStrD_int, ↓g_isStrD_str, ↓g_isStrD_tup, ↓g_isStrD_lst, ↓g_own_non, ↓g_own_bl, ↓g_own_int, ↓g_own_str, ↓g_own_tup, ↓g_own_lst, ↓g_own_ins, ↓g_eqi, ↓g_eqs, ↓g_nei, ↓g_nes, ↓p_bnd, ↓p_ret, ↓p_none, ↓p_fr, ↓p_and, ↓p_or, ↓p_not, ↓p_ifE, ↓p_bl, ↓p_nil, ↓p_cons, ↓p_tup, ↓p_lst, ↓p_drop, ↓p_rt, ↓p_mif, ↓p_for, ↓p_gNil, ↓p_gV, ↓p_gApp, ↓p_rV, ↓p_if, cs_un, cs_fr, List.length_cons, List.length_nil, List.length_map, Nat.zero_add, insD_i, decide_eq_true_eq, Bool.not_eq_true', Bool.not_true, Bool.not_false, decide_eq_false_iff_not, true_and, and_true, ne_eq, not_false_eq_true, List.lookup_cons, Nat.reduceAdd, isN_non, isN_bl, isN_int, isN_str, isN_tup, isN_lst, ↓reduceIte]
    refine of_spec (by omega) ht hg2 ?_
    simp (decide := true) only [rowD, rowO, List.append_nil, List.cons_append, List.nil_append, ↓k_some, ↓k_no, ↓k_ite, ↓getK_0, ↓getK_s, ↓setK_0, ↓setK_s, ↓ff_0, ↓ff_s, ↓ff_o, ↓fo_l, ↓fo_i, ↓fk_fr, ↓fk_ow, ↓vk_fr, ↓vk_ow, ↓vw_fr, ↓vw_l, ↓mv_fr, ↓mv_ow, ↓sq_nx, ↓sq_bk, ↓sq_ct, ↓sq_rt, ↓fi_rt, ↓fi_nx, ↓ou_0, ↓ou_fr, ↓ou_ow, ↓ou_un, ↓ou_of, ↓ou_on, ↓un_00, ↓un_0s, ↓un_s, ↓rk_fr, ↓rk_un, ↓rk_ow, ↓ak_l, ↓lk_l, ↓si_l, ↓ls_0, ↓ls_s, ↓gb_fr, ↓gb_ow, ↓rb_fr, ↓rb_ow, ↓to_0, ↓to_v, ↓to_b, ↓to_map, ↓to_mapn, ↓tb_fr, ↓tb_ow, ↓bk_0, ↓bk_v, ↓bk_bi, ↓ba_0, ↓ba_s, ↓bk_mapf, ↓bk_mapn, ↓bb_fr, ↓bb_ow, ↓ui_un, ↓set_tag, ↓set_tagf, ↓df_0, ↓sp_0, ↓sp_n, ↓sp_s, ↓fs_0, ↓fs_s, ↓fs_map, ↓ct_0, ↓ct_fr, ↓ct_un, ↓ct_ow, ↓ap_00, ↓ap_0s, ↓ap_s, ↓as_0, ↓as_s, ↓in_v, ↓in_b, ↓ib_fr, ↓ib_ow, ↓fl_v, ↓fr_fd, ↓fl_b, ↓fb_fr, ↓fb_ow, ↓get_look, ↓ln_i, ↓sf_fr, ↓sf_ow, ↓mk_r, ↓w_var, ↓w_view, ↓w_lift, ↓w_frz, ↓w_m1, ↓w_m2, ↓w_mV2, ↓w_m2V, ↓w_tst, ↓w_isN, ↓w_notN, ↓bv_bl, ↓w_andV, ↓w_orV, ↓nv_bl, ↓w_notV, ↓w_ch, ↓pt_i, ↓w_part, ↓w_sl, ↓w_slV, ↓w_cal, ↓w_lenV, ↓w_is, ↓w_isO, ↓w_put, ↓w_set, ↓w_move, ↓w_seq, ↓w_asg, ↓w_app, ↓w_setI, ↓w_items, ↓w_gB, ↓w_rB, ↓w_cl, ↓w_callA, ↓w_gStar, ↓w_fld, ↓get_d1, ↓w_mth, ↓w_mthS, ↓w_prp, ↓w_lenO, ↓w_own2, ↓w_ownB, ↓w_augO, ↓w_setF, ↓w_fn, ↓w_mk, ↓w_arg, ↓w_any, ↓w_kw, ↓selR, ↓selA, ↓sQ_0, ↓sQ_s, ↓st_nx, ↓st_ct, ↓st_bk, ↓st_rt, ↓w_lc, ↓g_ixt, ↓g_ixl, ↓g_ixs, ↓at_0, ↓at_1, ↓at_2, ↓at_3, ↓ix_0, ↓ix_1, ↓ix_2, ↓g_addi, ↓g_adds, ↓g_addt, ↓g_addl, ↓g_muli, ↓g_mult, ↓g_mull, ↓g_sub, ↓g_div, ↓g_mod, ↓g_pow, ↓g_bD, ↓g_lt, ↓g_le, ↓g_gt, ↓g_ge, ↓g_neg, ↓g_bl, ↓g_int, ↓g_lent, ↓g_lenl, ↓g_lens, ↓g_list, ↓g_lisl, ↓g_tupt, ↓g_tupl, ↓g_max, ↓g_min, ↓g_itt, ↓g_itl, ↓g_its, ↓g_slt, ↓g_sll, ↓g_sls, ↓g_rng1, ↓g_rng2, ↓g_enum, ↓g_nm, ↓g_tp, ↓g_gc, ↓g_gn, ↓g_isIntD_non, ↓g_isIntD_bl, ↓g_isIntD_int, ↓g_isIntD_str, ↓g_isIntD_tup, ↓g_isIntD_lst, ↓g_isBoolD_non, ↓g_isBoolD_bl, ↓g_isBoolD_int, ↓g_isBoolD_str, ↓g_isBoolD_tup, ↓g_isBoolD_lst, ↓g_isTupD_non, ↓g_isTupD_bl, ↓g_isTupD_int, ↓g_isTupD_str, ↓g_isTupD_tup, ↓g_isTupD_lst, ↓g_isStrD_non, ↓g_isStrD_bl, ↓g_isStrD_int, ↓g_isStrD_str, ↓g_isStrD_tup, ↓g_isStrD_lst, ↓g_own_non, ↓g_own_bl, ↓g_own_int, ↓g_own_str, ↓g_own_tup, ↓g_own_lst, ↓g_own_ins, ↓g_eqi, ↓g_eqs, ↓g_nei, ↓g_nes, ↓p_bnd, ↓p_ret, ↓p_none, ↓p_fr, ↓p_and, ↓p_or, ↓p_not, ↓p_ifE, ↓p_bl, ↓p_nil, ↓p_cons, ↓p_tup, ↓p_lst, ↓p_drop, ↓p_rt, ↓p_mif, ↓p_for, ↓p_gNil, ↓p_gV, ↓p_gApp, ↓p_rV, ↓p_if, cs_un, cs_fr, List.length_cons, List.length_nil, List.length_map, Nat.zero_add, insD_i, decide_eq_true_eq, Bool.not_eq_true', Bool.not_true, Bool.not_false, decide_eq_false_iff_not, true_and, and_true, ne_eq, not_false_eq_true, List.lookup_cons, Nat.reduceAdd, isN_non, isN_bl, isN_int, isN_str, isN_tup, isN_lst, ↓reduceIte]
    refine fields_spec ht hg2 (by omega) ?_
    simp (decide := true) only [rowD, rowO, List.append_nil, List.cons_append, List.nil_append, ↓k_some, ↓k_no, ↓k_ite, ↓getK_0, ↓getK_s, ↓setK_0, ↓setK_s, ↓ff_0, ↓ff_s, ↓ff_o, ↓fo_l, ↓fo_i, ↓fk_fr, ↓fk_ow, ↓vk_fr, ↓vk_ow, ↓vw_fr, ↓vw_l, ↓mv_fr, ↓mv_ow, ↓sq_nx, ↓sq_bk, ↓sq_ct, ↓sq_rt, ↓fi_rt, ↓fi_nx, ↓ou_0, ↓ou_fr, ↓ou_ow, ↓ou_un, ↓ou_of, ↓ou_on, ↓un_00, ↓un_0s, ↓un_s, ↓rk_fr, ↓rk_un, ↓rk_ow, ↓ak_l, ↓lk_l, ↓si_l, ↓ls_0, ↓ls_s, ↓gb_fr, ↓gb_ow, ↓rb_fr, ↓rb_ow, ↓to_0, ↓to_v, ↓to_b, ↓to_map, ↓to_mapn, ↓tb_fr, ↓tb_ow, ↓bk_0, ↓bk_v, ↓bk_bi, ↓ba_0, ↓ba_s, ↓bk_mapf, ↓bk_mapn, ↓bb_fr, ↓bb_ow, ↓ui_un, ↓set_tag, ↓set_tagf, ↓df_0, ↓sp_0, ↓sp_n, ↓sp_s, ↓fs_0, ↓fs_s, ↓fs_map, ↓ct_0, ↓ct_fr, ↓ct_un, ↓ct_ow, ↓ap_00, ↓ap_0s, ↓ap_s, ↓as_0, ↓as_s, ↓in_v, ↓in_b, ↓ib_fr, ↓ib_ow, ↓fl_v, ↓fr_fd, ↓fl_b, ↓fb_fr, ↓fb_ow, ↓get_look, ↓ln_i, ↓sf_fr, ↓sf_ow, ↓mk_r, ↓w_var, ↓w_view, ↓w_lift, ↓w_frz, ↓w_m1, ↓w_m2, ↓w_mV2, ↓w_m2V, ↓w_tst, ↓w_isN, ↓w_notN, ↓bv_bl, ↓w_andV, ↓w_orV, ↓nv_bl, ↓w_notV, ↓w_ch, ↓pt_i, ↓w_part, ↓w_sl, ↓w_slV, ↓w_cal, ↓w_lenV, ↓w_is, ↓w_isO, ↓w_put, ↓w_set, ↓w_move, ↓w_seq, ↓w_asg, ↓w_app, ↓w_setI, ↓w_items, ↓w_gB, ↓w_rB, ↓w_cl, ↓w_callA, ↓w_gStar, ↓w_fld, ↓get_d1, ↓w_mth, ↓w_mthS, ↓w_prp, ↓w_lenO, ↓w_own2, ↓w_ownB, ↓w_augO, ↓w_setF, ↓w_fn, ↓w_mk, ↓w_arg, ↓w_any, ↓w_kw, ↓selR, ↓selA, ↓sQ_0, ↓sQ_s, ↓st_nx, ↓st_ct, ↓st_bk, ↓st_rt, ↓w_lc, ↓g_ixt, ↓g_ixl, ↓g_ixs, ↓at_0, ↓at_1, ↓at_2, ↓at_3, ↓ix_0, ↓ix_1, ↓ix_2, ↓g_addi, ↓g_adds, ↓g_addt, ↓g_addl, ↓g_muli, ↓g_mult, ↓g_mull, ↓g_sub, ↓g_div, ↓g_mod, ↓g_pow, ↓g_bD, ↓g_lt, ↓g_le, ↓g_gt, ↓g_ge, ↓g_neg, ↓g_bl, ↓g_int, ↓g_lent, ↓g_lenl, ↓g_lens, ↓g_list, ↓g_lisl, ↓g_tupt, ↓g_tupl, ↓g_max, ↓g_min, ↓g_itt, ↓g_itl, ↓g_its, ↓g_slt, ↓g_sll, ↓g_sls, ↓g_rng1, ↓g_rng2, ↓g_enum, ↓g_nm, ↓g_tp, ↓g_gc, ↓g_gn, ↓g_isIntD_non, ↓g_isIntD_bl, ↓g_isIntD_int, ↓g_isIntD_str, ↓g_isIntD_tup, ↓g_isIntD_lst, ↓g_isBoolD_non, ↓g_isBoolD_bl, ↓g_isBoolD_int, ↓g_isBoolD_str, ↓g_isBoolD_tup, ↓g_isBoolD_lst, ↓g_isTupD_non, ↓g_isTupD_bl, ↓g_isTupD_int, ↓g_isTupD_str, ↓g_isTupD_tup, ↓g_isTupD_lst, ↓g_isStrD_non, ↓g_isStrD_bl, ↓g_isStrD_int, ↓g_isStrD_str, ↓g_isStrD_tup, ↓g_isStrD_lst, ↓g_own_non, ↓g_own_bl, ↓g_own_int, ↓g_own_str, ↓g_own_tup, ↓g_own_lst, ↓g_own_ins, ↓g_eqi, ↓g_eqs, ↓g_nei, ↓g_nes, ↓p_bnd, ↓p_ret, ↓p_none, ↓p_fr, ↓p_and, ↓p_or, ↓p_not, ↓p_ifE, ↓p_bl, ↓p_nil, ↓p_cons, ↓p_tup, ↓p_lst, ↓p_drop, ↓p_rt, ↓p_mif, ↓p_for, ↓p_gNil, ↓p_gV, ↓p_gApp, ↓p_rV, ↓p_if, cs_un, cs_fr, List.length_cons, List.length_nil, List.length_map, Nat.zero_add, insD_i, decide_eq_true_eq, Bool.not_eq_true', Bool.not_true, Bool.not_false, decide_eq_false_iff_not, true_and, and_true, ne_eq, not_false_eq_true, List.lookup_cons, Nat.reduceAdd, isN_non, isN_bl, isN_int, isN_str, isN_tup, isN_lst, ↓reduceIte]
    refine init_spec ht (fun d hd => (nomatch hd)) ?_
    simp (decide := true) only [rowD, rowO, List.append_nil, List.cons_append, List.nil_append, ↓k_some, ↓k_no, ↓k_ite, ↓getK_0, ↓getK_s, ↓setK_0, ↓setK_s, ↓ff_0, ↓ff_s, ↓ff_o, ↓fo_l, ↓fo_i, ↓fk_fr, ↓fk_ow, ↓vk_fr, ↓vk_ow, ↓vw_fr, ↓vw_l, ↓mv_fr, ↓mv_ow, ↓sq_nx, ↓sq_bk, ↓sq_ct, ↓sq_rt, ↓fi_rt, ↓fi_nx, ↓ou_0, ↓ou_fr, ↓ou_ow, ↓ou_un, ↓ou_of, ↓ou_on, ↓un_00, ↓un_0s, ↓un_s, ↓rk_fr, ↓rk_un, ↓rk_ow, ↓ak_l, ↓lk_l, ↓si_l, ↓ls_0, ↓ls_s, ↓gb_fr, ↓gb_ow, ↓rb_fr, ↓rb_ow, ↓to_0, ↓to_v, ↓to_b, ↓to_map, ↓to_mapn, ↓tb_fr, ↓tb_ow, ↓bk_0, ↓bk_v, ↓bk_bi, ↓ba_0, ↓ba_s, ↓bk_mapf, ↓bk_mapn, ↓bb_fr, ↓bb_ow, ↓ui_un, ↓set_tag, ↓set_tagf, ↓df_0, ↓sp_0, ↓sp_n, ↓sp_s, ↓fs_0, ↓fs_s, ↓fs_map, ↓ct_0, ↓ct_fr, ↓ct_un, ↓ct_ow, ↓ap_00, ↓ap_0s, ↓ap_s, ↓as_0, ↓as_s, ↓in_v, ↓in_b, ↓ib_fr, ↓ib_ow, ↓fl_v, ↓fr_fd, ↓fl_b, ↓fb_fr, ↓fb_ow, ↓get_look, ↓ln_i, ↓sf_fr, ↓sf_ow, ↓mk_r, ↓w_var, ↓w_view, ↓w_lift, ↓w_frz, ↓w_m1, ↓w_m2, ↓w_mV2, ↓w_m2V, ↓w_tst, ↓w_isN, ↓w_notN, ↓bv_bl, ↓w_andV, ↓w_orV, ↓nv_bl, ↓w_notV, ↓w_ch, ↓pt_i, ↓w_part, ↓w_sl, ↓w_slV, ↓w_cal, ↓w_lenV, ↓w_is, ↓w_isO, ↓w_put, ↓w_set, ↓w_move, ↓w_seq, ↓w_asg, ↓w_app, ↓w_setI, ↓w_items, ↓w_gB, ↓w_rB, ↓w_cl, ↓w_callA, ↓w_gStar, ↓w_fld, ↓get_d1, ↓w_mth, ↓w_mthS, ↓w_prp, ↓w_lenO, ↓w_own2, ↓w_ownB, ↓w_augO, ↓w_setF, ↓w_fn, ↓w_mk, ↓w_arg, ↓w_any, ↓w_kw, ↓selR, ↓selA, ↓sQ_0, ↓sQ_s, ↓st_nx, ↓st_ct, ↓st_bk, ↓st_rt, ↓w_lc, ↓g_ixt, ↓g_ixl, ↓g_ixs, ↓at_0, ↓at_1, ↓at_2, ↓at_3, ↓ix_0, ↓ix_1, ↓ix_2, ↓g_addi, ↓g_adds, ↓g_addt, ↓g_addl, ↓g_muli, ↓g_mult, ↓g_mull, ↓g_sub, ↓g_div, ↓g_mod, ↓g_pow, ↓g_bD, ↓g_lt, ↓g_le, ↓g_gt, ↓g_ge, ↓g_neg, ↓g_bl, ↓g_int, ↓g_lent, ↓g_lenl, ↓g_lens, ↓g_list, ↓g_lisl, ↓g_tupt, ↓g_tupl, ↓g_max, ↓g_min, ↓g_itt, ↓g_itl, ↓g_its, ↓g_slt, ↓g_sll, ↓g_sls, ↓g_rng1, ↓g_rng2, ↓g_enum, ↓g_nm, ↓g_tp, ↓g_gc, ↓g_gn, ↓g_isIntD_non, ↓g_isIntD_bl, ↓g_isIntD_int, ↓g_isIntD_str, ↓g_isIntD_tup, ↓g_isIntD_lst, ↓g_isBoolD_non, ↓g_isBoolD_bl, ↓g_isBoolD_int, ↓g_isBoolD_str, ↓g_isBoolD_tup, ↓g_isBoolD_lst, ↓g_isTupD_non, ↓g_isTupD_bl, ↓g_isTupD_int, ↓g_isTupD_str, ↓g_isTupD_tup, ↓g_isTupD_lst, ↓g_isStrD_non, ↓g_isStrD_bl, ↓g_isStrD_int, ↓g_isStrD_str, ↓g_isStrD_tup, ↓g_isStrD_lst, ↓g_own_non, ↓g_own_bl, ↓g_own_int, ↓g_own_str, ↓g_own_tup, ↓g_own_lst, ↓g_own_ins, ↓g_eqi, ↓g_eqs, ↓g_nei, ↓g_nes, ↓p_bnd, ↓p_ret, ↓p_none, ↓p_fr, ↓p_and, ↓p_or, ↓p_not, ↓p_ifE, ↓p_bl, ↓p_nil, ↓p_cons, ↓p_tup, ↓p_lst, ↓p_drop, ↓p_rt, ↓p_mif, ↓p_for, ↓p_gNil, ↓p_gV, ↓p_gApp, ↓p_rV, ↓p_if, cs_un, cs_fr, List.length_cons, List.length_nil, List.length_map, Nat.zero_add, insD_i, decide_eq_true_eq, Bool.not_eq_true', Bool.not_true, Bool.not_false, decide_eq_false_iff_not, true_and, and_true, ne_eq, not_false_eq_true, List.lookup_cons, Nat.reduceAdd, isN_non, isN_bl, isN_int, isN_str, isN_tup, isN_lst, ↓reduceIte]
    refine fields_spec ht (fun d hd => (nomatch hd)) (by simp) ?_
    simp (decide := true) only [rowD, rowO, List.append_nil, List.cons_append, List.nil_append, ↓k_some, ↓k_no, ↓k_ite, ↓getK_0, ↓getK_s, ↓setK_0, ↓setK_s, ↓ff_0, ↓ff_s, ↓ff_o, ↓fo_l, ↓fo_i, ↓fk_fr, ↓fk_ow, ↓vk_fr, ↓vk_ow, ↓vw_fr, ↓vw_l, ↓mv_fr, ↓mv_ow, ↓sq_nx, ↓sq_bk, ↓sq_ct, ↓sq_rt, ↓fi_rt, ↓fi_nx, ↓ou_0, ↓ou_fr, ↓ou_ow, ↓ou_un, ↓ou_of, ↓ou_on, ↓un_00, ↓un_0s, ↓un_s, ↓rk_fr, ↓rk_un, ↓rk_ow, ↓ak_l, ↓lk_l, ↓si_l, ↓ls_0, ↓ls_s, ↓gb_fr, ↓gb_ow, ↓rb_fr, ↓rb_ow, ↓to_0, ↓to_v, ↓to_b, ↓to_map, ↓to_mapn, ↓tb_fr, ↓tb_ow, ↓bk_0, ↓bk_v, ↓bk_bi, ↓ba_0, ↓ba_s, ↓bk_mapf, ↓bk_mapn, ↓bb_fr, ↓bb_ow, ↓ui_un, ↓set_tag, ↓set_tagf, ↓df_0, ↓sp_0, ↓sp_n, ↓sp_s, ↓fs_0, ↓fs_s, ↓fs_map, ↓ct_0, ↓ct_fr, ↓ct_un, ↓ct_ow, ↓ap_00, ↓ap_0s, ↓ap_s, ↓as_0, ↓as_s, ↓in_v, ↓in_b, ↓ib_fr, ↓ib_ow, ↓fl_v, ↓fr_fd, ↓fl_b, ↓fb_fr, ↓fb_ow, ↓get_look, ↓ln_i, ↓sf_fr, ↓sf_ow, ↓mk_r, ↓w_var, ↓w_view, ↓w_lift, ↓w_frz, ↓w_m1, ↓w_m2, ↓w_mV2, ↓w_m2V, ↓w_tst, ↓w_isN, ↓w_notN, ↓bv_bl, ↓w_andV, ↓w_orV, ↓nv_bl, ↓w_notV, ↓w_ch, ↓pt_i, ↓w_part, ↓w_sl, ↓w_slV, ↓w_cal, ↓w_lenV, ↓w_is, ↓w_isO, ↓w_put, ↓w_set, ↓w_move, ↓w_seq, ↓w_asg, ↓w_app, ↓w_setI, ↓w_items, ↓w_gB, ↓w_rB, ↓w_cl, ↓w_callA, ↓w_gStar, ↓w_fld, ↓get_d1, ↓w_mth, ↓w_mthS, ↓w_prp, ↓w_lenO, ↓w_own2, ↓w_ownB, ↓w_augO, ↓w_setF, ↓w_fn, ↓w_mk, ↓w_arg, ↓w_any, ↓w_kw, ↓selR, ↓selA, ↓sQ_0, ↓sQ_s, ↓st_nx, ↓st_ct, ↓st_bk, ↓st_rt, ↓w_lc, ↓g_ixt, ↓g_ixl, ↓g_ixs, ↓at_0, ↓at_1, ↓at_2, ↓at_3, ↓ix_0, ↓ix_1, ↓ix_2, ↓g_addi, ↓g_adds, ↓g_addt, ↓g_addl, ↓g_muli, ↓g_mult, ↓g_mull, ↓g_sub, ↓g_div, ↓g_mod, ↓g_pow, ↓g_bD, ↓g_lt, ↓g_le, ↓g_gt, ↓g_ge, ↓g_neg, ↓g_bl, ↓g_int, ↓g_lent, ↓g_lenl, ↓g_lens, ↓g_list, ↓g_lisl, ↓g_tupt, ↓g_tupl, ↓g_max, ↓g_min, ↓g_itt, ↓g_itl, ↓g_its, ↓g_slt, ↓g_sll, ↓g_sls, ↓g_rng1, ↓g_rng2, ↓g_enum, ↓g_nm, ↓g_tp, ↓g_gc, ↓g_gn, ↓g_isIntD_non, ↓g_isIntD_bl, ↓g_isIntD_int, ↓g_isIntD_str, ↓g_isIntD_tup, ↓g_isIntD_lst, ↓g_isBoolD_non, ↓g_isBoolD_bl, ↓g_isBoolD_int, ↓g_isBoolD_str, ↓g_isBoolD_tup, ↓g_isBoolD_lst, ↓g_isTupD_non, ↓g_isTupD_bl, ↓g_isTupD_int, ↓g_isTupD_str, ↓g_isTupD_tup, ↓g_isTupD_lst, ↓g_isStrD_non, ↓g_isStrD_bl, ↓g_isStrD_int, ↓g_isStrD_str, ↓g_isStrD_tup, ↓g_isStrD_lst, ↓g_own_non, ↓g_own_bl, ↓g_own_int, ↓g_own_str, ↓g_own_tup, ↓g_own_lst, ↓g_own_ins, ↓g_eqi, ↓g_eqs, ↓g_nei, ↓g_nes, ↓p_bnd, ↓p_ret, ↓p_none, ↓p_fr, ↓p_and, ↓p_or, ↓p_not, ↓p_ifE, ↓p_bl, ↓p_nil, ↓p_cons, ↓p_tup, ↓p_lst, ↓p_drop, ↓p_rt, ↓p_mif, ↓p_for, ↓p_gNil, ↓p_gV, ↓p_gApp, ↓p_rV, ↓p_if, cs_un, cs_fr, List.length_cons, List.length_nil, List.length_map, Nat.zero_add, insD_i, decide_eq_true_eq, Bool.not_eq_true', Bool.not_true, Bool.not_false, decide_eq_false_iff_not, true_and, and_true, ne_eq, not_false_eq_true, List.lookup_cons, Nat.reduceAdd, isN_non, isN_bl, isN_int, isN_str, isN_tup, isN_lst, ↓reduceIte]
    refine ⟨by rfl, of_spec (by omega) ht hg2 ?_⟩
    simp (decide := true) only [rowD, rowO, List.append_nil, List.cons_append, List.nil_append, ↓k_some, ↓k_no, ↓k_ite, ↓getK_0, ↓getK_s, ↓setK_0, ↓setK_s, ↓ff_0, ↓ff_s, ↓ff_o, ↓fo_l, ↓fo_i, ↓fk_fr, ↓fk_ow, ↓vk_fr, ↓vk_ow, ↓vw_fr, ↓vw_l, ↓mv_fr, ↓mv_ow, ↓sq_nx, ↓sq_bk, ↓sq_ct, ↓sq_rt, ↓fi_rt, ↓fi_nx, ↓ou_0, ↓ou_fr, ↓ou_ow, ↓ou_un, ↓ou_of, ↓ou_on, ↓un_00, ↓un_0s, ↓un_s, ↓rk_fr, ↓rk_un, ↓rk_ow, ↓ak_l, ↓lk_l, ↓si_l, ↓ls_0, ↓ls_s, ↓gb_fr, ↓gb_ow, ↓rb_fr, ↓rb_ow, ↓to_0, ↓to_v, ↓to_b, ↓to_map, ↓to_mapn, ↓tb_fr, ↓tb_ow, ↓bk_0, ↓bk_v, ↓bk_bi, ↓ba_0, ↓ba_s, ↓bk_mapf, ↓bk_mapn, ↓bb_fr, ↓bb_ow, ↓ui_un, ↓set_tag, ↓set_tagf, ↓df_0, ↓sp_0, ↓sp_n, ↓sp_s, ↓fs_0, ↓fs_s, ↓fs_map, ↓ct_0, ↓ct_fr, ↓ct_un, ↓ct_ow, ↓ap_00, ↓ap_0s, ↓ap_s, ↓as_0, ↓as_s, ↓in_v, ↓in_b, ↓ib_fr, ↓ib_ow, ↓fl_v, ↓fr_fd, ↓fl_b, ↓fb_fr, ↓fb_ow, ↓get_look, ↓ln_i, ↓sf_fr, ↓sf_ow, ↓mk_r, ↓w_var, ↓w_view, ↓w_lift, ↓w_frz, ↓w_m1, ↓w_m2, ↓w_mV2, ↓w_m2V, ↓w_tst, ↓w_isN, ↓w_notN, ↓bv_bl, ↓w_andV, ↓w_orV, ↓nv_bl, ↓w_notV, ↓w_ch, ↓pt_i, ↓w_part, ↓w_sl, ↓w_slV, ↓w_cal, ↓w_lenV, ↓w_is, ↓w_isO, ↓w_put, ↓w_set, ↓w_move, ↓w_seq, ↓w_asg, ↓w_app, ↓w_setI, ↓w_items, ↓w_gB, ↓w_rB, ↓w_cl, ↓w_callA, ↓w_gStar, ↓w_fld, ↓get_d1, ↓w_mth, ↓w_mthS, ↓w_prp, ↓w_lenO, ↓w_own2, ↓w_ownB, ↓w_augO, ↓w_setF, ↓w_fn, ↓w_mk, ↓w_arg, ↓w_any, ↓w_kw, ↓selR, ↓selA, ↓sQ_0, ↓sQ_s, ↓st_nx, ↓st_ct, ↓st_bk, ↓st_rt, ↓w_lc, ↓g_ixt, ↓g_ixl, ↓g_ixs, ↓at_0, ↓at_1, ↓at_2, ↓at_3, ↓ix_0, ↓ix_1, ↓ix_2, ↓g_addi, ↓g_adds, ↓g_addt, ↓g_addl, ↓g_muli, ↓g_mult, ↓g_mull, ↓g_sub, ↓g_div, ↓g_mod, ↓g_pow, ↓g_bD, ↓g_lt, ↓g_le, ↓g_gt, ↓g_ge, ↓g_neg, ↓g_bl, ↓g_int, ↓g_lent, ↓g_lenl, ↓g_lens, ↓g_list, ↓g_lisl, ↓g_tupt, ↓g_tupl, ↓g_max, ↓g_min, ↓g_itt, ↓g_itl, ↓g_its, ↓g_slt, ↓g_sll, ↓g_sls, ↓g_rng1, ↓g_rng2, ↓g_enum, ↓g_nm, ↓g_tp, ↓g_gc, ↓g_gn, ↓g_isIntD_non, ↓g_isIntD_bl, ↓g_isIntD_int, ↓g_isIntD_str, ↓g_isIntD_tup, ↓g_isIntD_lst, ↓g_isBoolD_non, ↓g_isBoolD_bl, ↓g_isBoolD_int, ↓g_isBoolD_str, ↓g_isBoolD_tup, ↓g_isBoolD_lst, ↓g_isTupD_non, ↓g_isTupD_bl, ↓g_isTupD_int, ↓g_isTupD_str, ↓g_isTupD_tup, ↓g_isTupD_lst, ↓g_isStrD_non, ↓g_isStrD_bl, ↓g_isStrD_int, ↓g_isStrD_str, ↓g_isStrD_tup, ↓g_isStrD_lst, ↓g_own_non, ↓g_own_bl, ↓g_own_int, ↓g_own_str, ↓g_own_tup, ↓g_own_lst, ↓g_own_ins, ↓g_eqi, ↓g_eqs, ↓g_nei, ↓g_nes, ↓p_bnd, ↓p_ret, ↓p_none, ↓p_fr, ↓p_and, ↓p_or, ↓p_not, ↓p_ifE, ↓p_bl, ↓p_nil, ↓p_cons, ↓p_tup, ↓p_lst, ↓p_drop, ↓p_rt, ↓p_mif, ↓p_for, ↓p_gNil, ↓p_gV, ↓p_gApp, ↓p_rV, ↓p_if, cs_un, cs_fr, List.length_cons, List.length_nil, List.length_map, Nat.zero_add, insD_i, decide_eq_true_eq, Bool.not_eq_true', Bool.not_true, Bool.not_false, decide_eq_false_iff_not, true_and, and_true, ne_eq, not_false_eq_true, List.lookup_cons, Nat.reduceAdd, isN_non, isN_bl, isN_int, isN_str, isN_tup, isN_lst, ↓reduceIte]
    refine fields_spec ht hg2 (by omega) ?_
    simp (decide := true) only [rowD, rowO, List.append_nil, List.cons_append, List.nil_append, ↓k_some, ↓k_no, ↓k_ite, ↓getK_0, ↓getK_s, ↓setK_0, ↓setK_s, ↓ff_0, ↓ff_s, ↓ff_o, ↓fo_l, ↓fo_i, ↓fk_fr, ↓fk_ow, ↓vk_fr, ↓vk_ow, ↓vw_fr, ↓vw_l, ↓mv_fr, ↓mv_ow, ↓sq_nx, ↓sq_bk, ↓sq_ct, ↓sq_rt, ↓fi_rt, ↓fi_nx, ↓ou_0, ↓ou_fr, ↓ou_ow, ↓ou_un, ↓ou_of, ↓ou_on, ↓un_00, ↓un_0s, ↓un_s, ↓rk_fr, ↓rk_un, ↓rk_ow, ↓ak_l, ↓lk_l, ↓si_l, ↓ls_0, ↓ls_s, ↓gb_fr, ↓gb_ow, ↓rb_fr, ↓rb_ow, ↓to_0, ↓to_v, ↓to_b, ↓to_map, ↓to_mapn, ↓tb_fr, ↓tb_ow, ↓bk_0, ↓bk_v, ↓bk_bi, ↓ba_0, ↓ba_s, ↓bk_mapf, ↓bk_mapn, ↓bb_fr, ↓bb_ow, ↓ui_un, ↓set_tag, ↓set_tagf, ↓df_0, ↓sp_0, ↓sp_n, ↓sp_s, ↓fs_0, ↓fs_s, ↓fs_map, ↓ct_0, ↓ct_fr, ↓ct_un, ↓ct_ow, ↓ap_00, ↓ap_0s, ↓ap_s, ↓as_0, ↓as_s, ↓in_v, ↓in_b, ↓ib_fr, ↓ib_ow, ↓fl_v, ↓fr_fd, ↓fl_b, ↓fb_fr, ↓fb_ow, ↓get_look, ↓ln_i, ↓sf_fr, ↓sf_ow, ↓mk_r, ↓w_var, ↓w_view, ↓w_lift, ↓w_frz, ↓w_m1, ↓w_m2, ↓w_mV2, ↓w_m2V, ↓w_tst, ↓w_isN, ↓w_notN, ↓bv_bl, ↓w_andV, ↓w_orV, ↓nv_bl, ↓w_notV, ↓w_ch, ↓pt_i, ↓w_part, ↓w_sl, ↓w_slV, ↓w_cal, ↓w_lenV, ↓w_is, ↓w_isO, ↓w_put, ↓w_set, ↓w_move, ↓w_seq, ↓w_asg, ↓w_app, ↓w_setI, ↓w_items, ↓w_gB, ↓w_rB, ↓w_cl, ↓w_callA, ↓w_gStar, ↓w_fld, ↓get_d1, ↓w_mth, ↓w_mthS, ↓w_prp, ↓w_lenO, ↓w_own2, ↓w_ownB, ↓w_augO, ↓w_setF, ↓w_fn, ↓w_mk, ↓w_arg, ↓w_any, ↓w_kw, ↓selR, ↓selA, ↓sQ_0, ↓sQ_s, ↓st_nx, ↓st_ct, ↓st_bk, ↓st_rt, ↓w_lc, ↓g_ixt, ↓g_ixl, ↓g_ixs, ↓at_0, ↓at_1, ↓at_2, ↓at_3, ↓ix_0, ↓ix_1, ↓ix_2, ↓g_addi, ↓g_adds, ↓g_addt, ↓g_addl, ↓g_muli, ↓g_mult, ↓g_mull, ↓g_sub, ↓g_div, ↓g_mod, ↓g_pow, ↓g_bD, ↓g_lt, ↓g_le, ↓g_gt, ↓g_ge, ↓g_neg, ↓g_bl, ↓g_int, ↓g_lent, ↓g_lenl, ↓g_lens, ↓g_list, ↓g_lisl, ↓g_tupt, ↓g_tupl, ↓g_max, ↓g_min, ↓g_itt, ↓g_itl, ↓g_its, ↓g_slt, ↓g_sll, ↓g_sls, ↓g_rng1, ↓g_rng2, ↓g_enum, ↓g_nm, ↓g_tp, ↓g_gc, ↓g_gn, ↓g_isIntD_non, ↓g_isIntD_bl, ↓g_isIntD_int, ↓g_isIntD_str, ↓g_isIntD_tup, ↓g_isIntD_lst, ↓g_isBoolD_non, ↓g_isBoolD_bl, ↓g_isBoolD_int, ↓g_isBoolD_str, ↓g_isBoolD_tup, ↓g_isBoolD_lst, ↓g_isTupD_non, ↓g_isTupD_bl, ↓g_isTupD_int, ↓g_isTupD_str, ↓g_isTupD_tup, ↓g_isTupD_lst, ↓g_isStrD_non, ↓g_isStrD_bl, ↓g_isStrD_int, ↓g_isStrD_str, ↓g_isStrD_tup, ↓g_isStrD_lst, ↓g_own_non, ↓g_own_bl, ↓g_own_int, ↓g_own_str, ↓g_own_tup, ↓g_own_lst, ↓g_own_ins, ↓g_eqi, ↓g_eqs, ↓g_nei, ↓g_nes, ↓p_bnd, ↓p_ret, ↓p_none, ↓p_fr, ↓p_and, ↓p_or, ↓p_not, ↓p_ifE, ↓p_bl, ↓p_nil, ↓p_cons, ↓p_tup, ↓p_lst, ↓p_drop, ↓p_rt, ↓p_mif, ↓p_for, ↓p_gNil, ↓p_gV, ↓p_gApp, ↓p_rV, ↓p_if, cs_un, cs_fr, List.length_cons, List.length_nil, List.length_map, Nat.zero_add, insD_i, decide_eq_true_eq, Bool.not_eq_true', Bool.not_true, Bool.not_false, decide_eq_false_iff_not, true_and, and_true, ne_eq, not_false_eq_true, List.lookup_cons, Nat.reduceAdd, isN_non, isN_bl, isN_int, isN_str, isN_tup, isN_lst, ↓reduceIte]
    have e0 : repD (Int.toNat 8) [g] = [g, g, g, g, g, g, g, g] := rfl
    rw [e0]
    obtain ⟨a0, a1, a2, a3, a4, a5, a6, a7, e8, g8⟩ := eight (l := ds ++ es ++ [g, g, g, g, g, g, g, g]) (by simp; omega) (fun d hd' => (List.mem_append.mp hd').elim (fun h => (List.mem_append.mp h).elim (hg d) (hg2 d)) fun h => by
      have e : d = g := by simpa using h
      rw [e]; exact hd)
    rw [e8]
    refine ⟨Nat.le_trans (by omega : ds.length + es.length ≤ 100) (by decide), by simp, ?_, ?_⟩
    · simp only [List.length_append]
      exact Nat.le_trans (by omega : ds.length + es.length + 8 ≤ 100) (by decide)
    have q0 : L2.atI [a0, a1, a2, a3, a4, a5, a6, a7] 0 = some a0 := rfl
    have q1 : L2.atI [a0, a1, a2, a3, a4, a5, a6, a7] 1 = some a1 := rfl
    have q2 : L2.atI [a0, a1, a2, a3, a4, a5, a6, a7] 2 = some a2 := rfl
    have q3 : L2.atI [a0, a1, a2, a3, a4, a5, a6, a7] 3 = some a3 := rfl
    have q4 : L2.atI [a0, a1, a2, a3, a4, a5, a6, a7] 4 = some a4 := rfl
    have q5 : L2.atI [a0, a1, a2, a3, a4, a5, a6, a7] 5 = some a5 := rfl
    have q6 : L2.atI [a0, a1, a2, a3, a4, a5, a6, a7] 6 = some a6 := rfl
    have q7 : L2.atI [a0, a1, a2, a3, a4, a5, a6, a7] 7 = some a7 := rfl
    simp (decide := true) only [q0, q1, q2, q3, q4, q5, q6, q7, rowD, rowO, List.append_nil, List.cons_append, List.nil_append, ↓k_some, ↓k_no, ↓k_ite, ↓getK_0, ↓getK_s, ↓setK_0, ↓setK_s, ↓ff_0, ↓ff_s, ↓ff_o, ↓fo_l, ↓fo_i, ↓fk_fr, ↓fk_ow, ↓vk_fr, ↓vk_ow, ↓vw_fr, ↓vw_l, ↓mv_fr, ↓mv_ow, ↓sq_nx, ↓sq_bk, ↓sq_ct, ↓sq_rt, ↓fi_rt, ↓fi_nx, ↓ou_0, ↓ou_fr, ↓ou_ow, ↓ou_un, ↓ou_of, ↓ou_on, ↓un_00, ↓un_0s, ↓un_s, ↓rk_fr, ↓rk_un, ↓rk_ow, ↓ak_l, ↓lk_l, ↓si_l, ↓ls_0, ↓ls_s, ↓gb_fr, ↓gb_ow, ↓rb_fr, ↓rb_ow, ↓to_0, ↓to_v, ↓to_b, ↓to_map, ↓to_mapn, ↓tb_fr, ↓tb_ow, ↓bk_0, ↓bk_v, ↓bk_bi, ↓ba_0, ↓ba_s, ↓bk_mapf, ↓bk_mapn, ↓bb_fr, ↓bb_ow, ↓ui_un, ↓set_tag, ↓set_tagf, ↓df_0, ↓sp_0, ↓sp_n, ↓sp_s, ↓fs_0, ↓fs_s, ↓fs_map, ↓ct_0, ↓ct_fr, ↓ct_un, ↓ct_ow, ↓ap_00, ↓ap_0s, ↓ap_s, ↓as_0, ↓as_s, ↓in_v, ↓in_b, ↓ib_fr, ↓ib_ow, ↓fl_v, ↓fr_fd, ↓fl_b, ↓fb_fr, ↓fb_ow, ↓get_look, ↓ln_i, ↓sf_fr, ↓sf_ow, ↓mk_r, ↓w_var, ↓w_view, ↓w_lift, ↓w_frz, ↓w_m1, ↓w_m2, ↓w_mV2, ↓w_m2V, ↓w_tst, ↓w_isN, ↓w_notN, ↓bv_bl, ↓w_andV, ↓w_orV, ↓nv_bl, ↓w_notV, ↓w_ch, ↓pt_i, ↓w_part, ↓w_sl, ↓w_slV, ↓w_cal, ↓w_lenV, ↓w_is, ↓w_isO, ↓w_put, ↓w_set, ↓w_move, ↓w_seq, ↓w_asg, ↓w_app, ↓w_setI, ↓w_items, ↓w_gB, ↓w_rB, ↓w_cl, ↓w_callA, ↓w_gStar, ↓w_fld, ↓get_d1, ↓w_mth, ↓w_mthS, ↓w_prp, ↓w_lenO, ↓w_own2, ↓w_ownB, ↓w_augO, ↓w_setF, ↓w_fn, ↓w_mk, ↓w_arg, ↓w_any, ↓w_kw, ↓selR, ↓selA, ↓sQ_0, ↓sQ_s, ↓st_nx, ↓st_ct, ↓st_bk, ↓st_rt, ↓w_lc, ↓g_ixt, ↓g_ixl, ↓g_ixs, ↓at_0, ↓at_1, ↓at_2, ↓at_3, ↓ix_0, ↓ix_1, ↓ix_2, ↓g_addi, ↓g_adds, ↓g_addt, ↓g_addl, ↓g_muli, ↓g_mult, ↓g_mull, ↓g_sub, ↓g_div, ↓g_mod, ↓g_pow, ↓g_bD, ↓g_lt, ↓g_le, ↓g_gt, ↓g_ge, ↓g_neg, ↓g_bl, ↓g_int, ↓g_lent, ↓g_lenl, ↓g_lens, ↓g_list, ↓g_lisl, ↓g_tupt, ↓g_tupl, ↓g_max, ↓g_min, ↓g_itt, ↓g_itl, ↓g_its, ↓g_slt, ↓g_sll, ↓g_sls, ↓g_rng1, ↓g_rng2, ↓g_enum, ↓g_nm, ↓g_tp, ↓g_gc, ↓g_gn, ↓g_isIntD_non, ↓g_isIntD_bl, ↓g_isIntD_int, ↓g_isIntD_str, ↓g_isIntD_tup, ↓g_isIntD_lst, ↓g_isBoolD_non, ↓g_isBoolD_bl, ↓g_isBoolD_int, ↓g_isBoolD_str, ↓g_isBoolD_tup, ↓g_isBoolD_lst, ↓g_isTupD_non, ↓g_isTupD_bl, ↓g_isTupD_int, ↓g_isTupD_str, ↓g_isTupD_tup, ↓g_isTupD_lst, ↓g_isStrD_non, ↓g_isStrD_bl, ↓g_isStrD_int, ↓g_isStrD_str, ↓g_isStrD_tup, ↓g_isStrD_lst, ↓g_own_non, ↓g_own_bl, ↓g_own_int, ↓g_own_str, ↓g_own_tup, ↓g_own_lst, ↓g_own_ins, ↓g_eqi, ↓g_eqs, ↓g_nei, ↓g_nes, ↓p_bnd, ↓p_ret, ↓p_none, ↓p_fr, ↓p_and, ↓p_or, ↓p_not, ↓p_ifE, ↓p_bl, ↓p_nil, ↓p_cons, ↓p_tup, ↓p_lst, ↓p_drop, ↓p_rt, ↓p_mif, ↓p_for, ↓p_gNil, ↓p_gV, ↓p_gApp, ↓p_rV, ↓p_if, cs_un, cs_fr, List.length_cons, List.length_nil, List.length_map, Nat.zero_add, insD_i, decide_eq_true_eq, Bool.not_eq_true', Bool.not_true, Bool.not_false, decide_eq_false_iff_not, true_and, and_true, ne_eq, not_false_eq_true, List.lookup_cons, Nat.reduceAdd, isN_non, isN_bl, isN_int, isN_str, isN_tup, isN_lst, ↓reduceIte]
    refine init_spec ht g8 ?_
    simp (decide := true) only [rowD, rowO, List.append_nil, List.cons_append, List.nil_append, ↓k_some, ↓k_no, ↓k_ite, ↓getK_0, ↓getK_s, ↓setK_0, ↓setK_s, ↓ff_0, ↓ff_s, ↓ff_o, ↓fo_l, ↓fo_i, ↓fk_fr, ↓fk_ow, ↓vk_fr, ↓vk_ow, ↓vw_fr, ↓vw_l, ↓mv_fr, ↓mv_ow, ↓sq_nx, ↓sq_bk, ↓sq_ct, ↓sq_rt, ↓fi_rt, ↓fi_nx, ↓ou_0, ↓ou_fr, ↓ou_ow, ↓ou_un, ↓ou_of, ↓ou_on, ↓un_00, ↓un_0s, ↓un_s, ↓rk_fr, ↓rk_un, ↓rk_ow, ↓ak_l, ↓lk_l, ↓si_l, ↓ls_0, ↓ls_s, ↓gb_fr, ↓gb_ow, ↓rb_fr, ↓rb_ow, ↓to_0, ↓to_v, ↓to_b, ↓to_map, ↓to_mapn, ↓tb_fr, ↓tb_ow, ↓bk_0, ↓bk_v, ↓bk_bi, ↓ba_0, ↓ba_s, ↓bk_mapf, ↓bk_mapn, ↓bb_fr, ↓bb_ow, ↓ui_un, ↓set_tag, ↓set_tagf, ↓df_0, ↓sp_0, ↓sp_n, ↓sp_s, ↓fs_0, ↓fs_s, ↓fs_map, ↓ct_0, ↓ct_fr, ↓ct_un, ↓ct_ow, ↓ap_00, ↓ap_0s, ↓ap_s, ↓as_0, ↓as_s, ↓in_v, ↓in_b, ↓ib_fr, ↓ib_ow, ↓fl_v, ↓fr_fd, ↓fl_b, ↓fb_fr, ↓fb_ow, ↓get_look, ↓ln_i, ↓sf_fr, ↓sf_ow, ↓mk_r, ↓w_var, ↓w_view, ↓w_lift, ↓w_frz, ↓w_m1, ↓w_m2, ↓w_mV2, ↓w_m2V, ↓w_tst, ↓w_isN, ↓w_notN, ↓bv_bl, ↓w_andV, ↓w_orV, ↓nv_bl, ↓w_notV, ↓w_ch, ↓pt_i, ↓w_part, ↓w_sl, ↓w_slV, ↓w_cal, ↓w_lenV, ↓w_is, ↓w_isO, ↓w_put, ↓w_set, ↓w_move, ↓w_seq, ↓w_asg, ↓w_app, ↓w_setI, ↓w_items, ↓w_gB, ↓w_rB, ↓w_cl, ↓w_callA, ↓w_gStar, ↓w_fld, ↓get_d1, ↓w_mth, ↓w_mthS, ↓w_prp, ↓w_lenO, ↓w_own2, ↓w_ownB, ↓w_augO, ↓w_setF, ↓w_fn, ↓w_mk, ↓w_arg, ↓w_any, ↓w_kw, ↓selR, ↓selA, ↓sQ_0, ↓sQ_s, ↓st_nx, ↓st_ct, ↓st_bk, ↓st_rt, ↓w_lc, ↓g_ixt, ↓g_ixl, ↓g_ixs, ↓at_0, ↓at_1, ↓at_2, ↓at_3, ↓ix_0, ↓ix_1, ↓ix_2, ↓g_addi, ↓g_adds, ↓g_addt, ↓g_addl, ↓g_muli, ↓g_mult, ↓g_mull, ↓g_sub, ↓g_div, ↓g_mod, ↓g_pow, ↓g_bD, ↓g_lt, ↓g_le, ↓g_gt, ↓g_ge, ↓g_neg, ↓g_bl, ↓g_int, ↓g_lent, ↓g_lenl, ↓g_lens, ↓g_list, ↓g_lisl, ↓g_tupt, ↓g_tupl, ↓g_max, ↓g_min, ↓g_itt, ↓g_itl, ↓g_its, ↓g_slt, ↓g_sll, ↓g_sls, ↓g_rng1, ↓g_rng2, ↓g_enum, ↓g_nm, ↓g_tp, ↓g_gc, ↓g_gn, ↓g_isIntD_non, ↓g_isIntD_bl, ↓g_isIntD_int, ↓g_isIntD_str, ↓g_isIntD_tup, ↓g_isIntD_lst, ↓g_isBoolD_non, ↓g_isBoolD_bl, ↓g_isBoolD_int, ↓g_isBoolD_str, ↓g_isBoolD_tup, ↓g_isBoolD_lst, ↓g_isTupD_non, ↓g_isTupD_bl, ↓g_isTupD_int, ↓g_isTupD_str, ↓g_isTupD_tup, ↓g_isTupD_lst, ↓g_isStrD_non, ↓g_isStrD_bl, ↓g_isStrD_int, ↓g_isStrD_str, ↓g_isStrD_tup, ↓g_isStrD_lst, ↓g_own_non, ↓g_own_bl, ↓g_own_int, ↓g_own_str, ↓g_own_tup, ↓g_own_lst, ↓g_own_ins, ↓g_eqi, ↓g_eqs, ↓g_nei, ↓g_nes, ↓p_bnd, ↓p_ret, ↓p_none, ↓p_fr, ↓p_and, ↓p_or, ↓p_not, ↓p_ifE, ↓p_bl, ↓p_nil, ↓p_cons, ↓p_tup, ↓p_lst, ↓p_drop, ↓p_rt, ↓p_mif, ↓p_for, ↓p_gNil, ↓p_gV, ↓p_gApp, ↓p_rV, ↓p_if, cs_un, cs_fr, List.length_cons, List.length_nil, List.length_map, Nat.zero_add, insD_i, decide_eq_true_eq, Bool.not_eq_true', Bool.not_true, Bool.not_false, decide_eq_false_iff_not, true_and, and_true, ne_eq, not_false_eq_true, List.lookup_cons, Nat.reduceAdd, isN_non, isN_bl, isN_int, isN_str, isN_tup, isN_lst, ↓reduceIte]
    refine fields_spec ht g8 (by simp) ?_
    simp (decide := true) only [rowD, rowO, List.append_nil, List.cons_append, List.nil_append, ↓k_some, ↓k_no, ↓k_ite, ↓getK_0, ↓getK_s, ↓setK_0, ↓setK_s, ↓ff_0, ↓ff_s, ↓ff_o, ↓fo_l, ↓fo_i, ↓fk_fr, ↓fk_ow, ↓vk_fr, ↓vk_ow, ↓vw_fr, ↓vw_l, ↓mv_fr, ↓mv_ow, ↓sq_nx, ↓sq_bk, ↓sq_ct, ↓sq_rt, ↓fi_rt, ↓fi_nx, ↓ou_0, ↓ou_fr, ↓ou_ow, ↓ou_un, ↓ou_of, ↓ou_on, ↓un_00, ↓un_0s, ↓un_s, ↓rk_fr, ↓rk_un, ↓rk_ow, ↓ak_l, ↓lk_l, ↓si_l, ↓ls_0, ↓ls_s, ↓gb_fr, ↓gb_ow, ↓rb_fr, ↓rb_ow, ↓to_0, ↓to_v, ↓to_b, ↓to_map, ↓to_mapn, ↓tb_fr, ↓tb_ow, ↓bk_0, ↓bk_v, ↓bk_bi, ↓ba_0, ↓ba_s, ↓bk_mapf, ↓bk_mapn, ↓bb_fr, ↓bb_ow, ↓ui_un, ↓set_tag, ↓set_tagf, ↓df_0, ↓sp_0, ↓sp_n, ↓sp_s, ↓fs_0, ↓fs_s, ↓fs_map, ↓ct_0, ↓ct_fr, ↓ct_un, ↓ct_ow, ↓ap_00, ↓ap_0s, ↓ap_s, ↓as_0, ↓as_s, ↓in_v, ↓in_b, ↓ib_fr, ↓ib_ow, ↓fl_v, ↓fr_fd, ↓fl_b, ↓fb_fr, ↓fb_ow, ↓get_look, ↓ln_i, ↓sf_fr, ↓sf_ow, ↓mk_r, ↓w_var, ↓w_view, ↓w_lift, ↓w_frz, ↓w_m1, ↓w_m2, ↓w_mV2, ↓w_m2V, ↓w_tst, ↓w_isN, ↓w_notN, ↓bv_bl, ↓w_andV, ↓w_orV, ↓nv_bl, ↓w_notV, ↓w_ch, ↓pt_i, ↓w_part, ↓w_sl, ↓w_slV, ↓w_cal, ↓w_lenV, ↓w_is, ↓w_isO, ↓w_put, ↓w_set, ↓w_move, ↓w_seq, ↓w_asg, ↓w_app, ↓w_setI, ↓w_items, ↓w_gB, ↓w_rB, ↓w_cl, ↓w_callA, ↓w_gStar, ↓w_fld, ↓get_d1, ↓w_mth, ↓w_mthS, ↓w_prp, ↓w_lenO, ↓w_own2, ↓w_ownB, ↓w_augO, ↓w_setF, ↓w_fn, ↓w_mk, ↓w_arg, ↓w_any, ↓w_kw, ↓selR, ↓selA, ↓sQ_0, ↓sQ_s, ↓st_nx, ↓st_ct, ↓st_bk, ↓st_rt, ↓w_lc, ↓g_ixt, ↓g_ixl, ↓g_ixs, ↓at_0, ↓at_1, ↓at_2, ↓at_3, ↓ix_0, ↓ix_1, ↓ix_2, ↓g_addi, ↓g_adds, ↓g_addt, ↓g_addl, ↓g_muli, ↓g_mult, ↓g_mull, ↓g_sub, ↓g_div, ↓g_mod, ↓g_pow, ↓g_bD, ↓g_lt, ↓g_le, ↓g_gt, ↓g_ge, ↓g_neg, ↓g_bl, ↓g_int, ↓g_lent, ↓g_lenl, ↓g_lens, ↓g_list, ↓g_lisl, ↓g_tupt, ↓g_tupl, ↓g_max, ↓g_min, ↓g_itt, ↓g_itl, ↓g_its, ↓g_slt, ↓g_sll, ↓g_sls, ↓g_rng1, ↓g_rng2, ↓g_enum, ↓g_nm, ↓g_tp, ↓g_gc, ↓g_gn, ↓g_isIntD_non, ↓g_isIntD_bl, ↓g_isIntD_int, ↓g_isIntD_str, ↓g_isIntD_tup, ↓g_isIntD_lst, ↓g_isBoolD_non, ↓g_isBoolD_bl, ↓g_isBoolD_int, ↓g_isBoolD_str, ↓g_isBoolD_tup, ↓g_isBoolD_lst, ↓g_isTupD_non, ↓g_isTupD_bl, ↓g_isTupD_int, ↓g_isTupD_str, ↓g_isTupD_tup, ↓g_isTupD_lst, ↓g_isStrD_non, ↓g_isStrD_bl, ↓g_isStrD_int, ↓g_isStrD_str, ↓g_isStrD_tup, ↓g_isStrD_lst, ↓g_own_non, ↓g_own_bl, ↓g_own_int, ↓g_own_str, ↓g_own_tup, ↓g_own_lst, ↓g_own_ins, ↓g_eqi, ↓g_eqs, ↓g_nei, ↓g_nes, ↓p_bnd, ↓p_ret, ↓p_none, ↓p_fr, ↓p_and, ↓p_or, ↓p_not, ↓p_ifE, ↓p_bl, ↓p_nil, ↓p_cons, ↓p_tup, ↓p_lst, ↓p_drop, ↓p_rt, ↓p_mif, ↓p_for, ↓p_gNil, ↓p_gV, ↓p_gApp, ↓p_rV, ↓p_if, cs_un, cs_fr, List.length_cons, List.length_nil, List.length_map, Nat.zero_add, insD_i, decide_eq_true_eq, Bool.not_eq_true', Bool.not_true, Bool.not_false, decide_eq_false_iff_not, true_and, and_true, ne_eq, not_false_eq_true, List.lookup_cons, Nat.reduceAdd, isN_non, isN_bl, isN_int, isN_str, isN_tup, isN_lst, ↓reduceIte]
    refine fields_spec ht hg (by omega) ?_
    simp (decide := true) only [rowD, rowO, List.append_nil, List.cons_append, List.nil_append, ↓k_some, ↓k_no, ↓k_ite, ↓getK_0, ↓getK_s, ↓setK_0, ↓setK_s, ↓ff_0, ↓ff_s, ↓ff_o, ↓fo_l, ↓fo_i, ↓fk_fr, ↓fk_ow, ↓vk_fr, ↓vk_ow, ↓vw_fr, ↓vw_l, ↓mv_fr, ↓mv_ow, ↓sq_nx, ↓sq_bk, ↓sq_ct, ↓sq_rt, ↓fi_rt, ↓fi_nx, ↓ou_0, ↓ou_fr, ↓ou_ow, ↓ou_un, ↓ou_of, ↓ou_on, ↓un_00, ↓un_0s, ↓un_s, ↓rk_fr, ↓rk_un, ↓rk_ow, ↓ak_l, ↓lk_l, ↓si_l, ↓ls_0, ↓ls_s, ↓gb_fr, ↓gb_ow, ↓rb_fr, ↓rb_ow, ↓to_0, ↓to_v, ↓to_b, ↓to_map, ↓to_mapn, ↓tb_fr, ↓tb_ow, ↓bk_0, ↓bk_v, ↓bk_bi, ↓ba_0, ↓ba_s, ↓bk_mapf, ↓bk_mapn, ↓bb_fr, ↓bb_ow, ↓ui_un, ↓set_tag, ↓set_tagf, ↓df_0, ↓sp_0, ↓sp_n, ↓sp_s, ↓fs_0, ↓fs_s, ↓fs_map, ↓ct_0, ↓ct_fr, ↓ct_un, ↓ct_ow, ↓ap_00, ↓ap_0s, ↓ap_s, ↓as_0, ↓as_s, ↓in_v, ↓in_b, ↓ib_fr, ↓ib_ow, ↓fl_v, ↓fr_fd, ↓fl_b, ↓fb_fr, ↓fb_ow, ↓get_look, ↓ln_i, ↓sf_fr, ↓sf_ow, ↓mk_r, ↓w_var, ↓w_view, ↓w_lift, ↓w_frz, ↓w_m1, ↓w_m2, ↓w_mV2, ↓w_m2V, ↓w_tst, ↓w_isN, ↓w_notN, ↓bv_bl, ↓w_andV, ↓w_orV, ↓nv_bl, ↓w_notV, ↓w_ch, ↓pt_i, ↓w_part, ↓w_sl, ↓w_slV, ↓w_cal, ↓w_lenV, ↓w_is, ↓w_isO, ↓w_put, ↓w_set, ↓w_move, ↓w_seq, ↓w_asg, ↓w_app, ↓w_setI, ↓w_items, ↓w_gB, ↓w_rB, ↓w_cl, ↓w_callA, ↓w_gStar, ↓w_fld, ↓get_d1, ↓w_mth, ↓w_mthS, ↓w_prp, ↓w_lenO, ↓w_own2, ↓w_ownB, ↓w_augO, ↓w_setF, ↓w_fn, ↓w_mk, ↓w_arg, ↓w_any, ↓w_kw, ↓selR, ↓selA, ↓sQ_0, ↓sQ_s, ↓st_nx, ↓st_ct, ↓st_bk, ↓st_rt, ↓w_lc, ↓g_ixt, ↓g_ixl, ↓g_ixs, ↓at_0, ↓at_1, ↓at_2, ↓at_3, ↓ix_0, ↓ix_1, ↓ix_2, ↓g_addi, ↓g_adds, ↓g_addt, ↓g_addl, ↓g_muli, ↓g_mult, ↓g_mull, ↓g_sub, ↓g_div, ↓g_mod, ↓g_pow, ↓g_bD, ↓g_lt, ↓g_le, ↓g_gt, ↓g_ge, ↓g_neg, ↓g_bl, ↓g_int, ↓g_lent, ↓g_lenl, ↓g_lens, ↓g_list, ↓g_lisl, ↓g_tupt, ↓g_tupl, ↓g_max, ↓g_min, ↓g_itt, ↓g_itl, ↓g_its, ↓g_slt, ↓g_sll, ↓g_sls, ↓g_rng1, ↓g_rng2, ↓g_enum, ↓g_nm, ↓g_tp, ↓g_gc, ↓g_gn, ↓g_isIntD_non, ↓g_isIntD_bl, ↓g_isIntD_int, ↓g_isIntD_str, ↓g_isIntD_tup, ↓g_isIntD_lst, ↓g_isBoolD_non, ↓g_isBoolD_bl, ↓g_isBoolD_int, ↓g_isBoolD_str, ↓g_isBoolD_tup, ↓g_isBoolD_lst, ↓g_isTupD_non, ↓g_isTupD_bl, ↓g_isTupD_int, ↓g_isTupD_str, ↓g_isTupD_tup, ↓g_isTupD_lst, ↓g_isStrD_non, ↓g_isStrD_bl, ↓g_isStrD_int, ↓g_isStrD_str, ↓g_isStrD_tup, ↓g_isStrD_lst, ↓g_own_non, ↓g_own_bl, ↓g_own_int, ↓g_own_str, ↓g_own_tup, ↓g_own_lst, ↓g_own_ins, ↓g_eqi, ↓g_eqs, ↓g_nei, ↓g_nes, ↓p_bnd, ↓p_ret, ↓p_none, ↓p_fr, ↓p_and, ↓p_or, ↓p_not, ↓p_ifE, ↓p_bl, ↓p_nil, ↓p_cons, ↓p_tup, ↓p_lst, ↓p_drop, ↓p_rt, ↓p_mif, ↓p_for, ↓p_gNil, ↓p_gV, ↓p_gApp, ↓p_rV, ↓p_if, cs_un, cs_fr, List.length_cons, List.length_nil, List.length_map, Nat.zero_add, insD_i, decide_eq_true_eq, Bool.not_eq_true', Bool.not_true, Bool.not_false, decide_eq_false_iff_not, true_and, and_true, ne_eq, not_false_eq_true, List.lookup_cons, Nat.reduceAdd, isN_non, isN_bl, isN_int, isN_str, isN_tup, isN_lst, ↓reduceIte]
    refine fields_spec ht hg2 (by omega) ?_
    simp (decide := true) only [rowD, rowO, List.append_nil, List.cons_append, List.nil_append, ↓k_some, ↓k_no, ↓k_ite, ↓getK_0, ↓getK_s, ↓setK_0, ↓setK_s, ↓ff_0, ↓ff_s, ↓ff_o, ↓fo_l, ↓fo_i, ↓fk_fr, ↓fk_ow, ↓vk_fr, ↓vk_ow, ↓vw_fr, ↓vw_l, ↓mv_fr, ↓mv_ow, ↓sq_nx, ↓sq_bk, ↓sq_ct, ↓sq_rt, ↓fi_rt, ↓fi_nx, ↓ou_0, ↓ou_fr, ↓ou_ow, ↓ou_un, ↓ou_of, ↓ou_on, ↓un_00, ↓un_0s, ↓un_s, ↓rk_fr, ↓rk_un, ↓rk_ow, ↓ak_l, ↓lk_l, ↓si_l, ↓ls_0, ↓ls_s, ↓gb_fr, ↓gb_ow, ↓rb_fr, ↓rb_ow, ↓to_0, ↓to_v, ↓to_b, ↓to_map, ↓to_mapn, ↓tb_fr, ↓tb_ow, ↓bk_0, ↓bk_v, ↓bk_bi, ↓ba_0, ↓ba_s, ↓bk_mapf, ↓bk_mapn, ↓bb_fr, ↓bb_ow, ↓ui_un, ↓set_tag, ↓set_tagf, ↓df_0, ↓sp_0, ↓sp_n, ↓sp_s, ↓fs_0, ↓fs_s, ↓fs_map, ↓ct_0, ↓ct_fr, ↓ct_un, ↓ct_ow, ↓ap_00, ↓ap_0s, ↓ap_s, ↓as_0, ↓as_s, ↓in_v, ↓in_b, ↓ib_fr, ↓ib_ow, ↓fl_v, ↓fr_fd, ↓fl_b, ↓fb_fr, ↓fb_ow, ↓get_look, ↓ln_i, ↓sf_fr, ↓sf_ow, ↓mk_r, ↓w_var, ↓w_view, ↓w_lift, ↓w_frz, ↓w_m1, ↓w_m2, ↓w_mV2, ↓w_m2V, ↓w_tst, ↓w_isN, ↓w_notN, ↓bv_bl, ↓w_andV, ↓w_orV, ↓nv_bl, ↓w_notV, ↓w_ch, ↓pt_i, ↓w_part, ↓w_sl, ↓w_slV, ↓w_cal, ↓w_lenV, ↓w_is, ↓w_isO, ↓w_put, ↓w_set, ↓w_move, ↓w_seq, ↓w_asg, ↓w_app, ↓w_setI, ↓w_items, ↓w_gB, ↓w_rB, ↓w_cl, ↓w_callA, ↓w_gStar, ↓w_fld, ↓get_d1, ↓w_mth, ↓w_mthS, ↓w_prp, ↓w_lenO, ↓w_own2, ↓w_ownB, ↓w_augO, ↓w_setF, ↓w_fn, ↓w_mk, ↓w_arg, ↓w_any, ↓w_kw, ↓selR, ↓selA, ↓sQ_0, ↓sQ_s, ↓st_nx, ↓st_ct, ↓st_bk, ↓st_rt, ↓w_lc, ↓g_ixt, ↓g_ixl, ↓g_ixs, ↓at_0, ↓at_1, ↓at_2, ↓at_3, ↓ix_0, ↓ix_1, ↓ix_2, ↓g_addi, ↓g_adds, ↓g_addt, ↓g_addl, ↓g_muli, ↓g_mult, ↓g_mull, ↓g_sub, ↓g_div, ↓g_mod, ↓g_pow, ↓g_bD, ↓g_lt, ↓g_le, ↓g_gt, ↓g_ge, ↓g_neg, ↓g_bl, ↓g_int, ↓g_lent, ↓g_lenl, ↓g_lens, ↓g_list, ↓g_lisl, ↓g_tupt, ↓g_tupl, ↓g_max, ↓g_min, ↓g_itt, ↓g_itl, ↓g_its, ↓g_slt, ↓g_sll, ↓g_sls, ↓g_rng1, ↓g_rng2, ↓g_enum, ↓g_nm, ↓g_tp, ↓g_gc, ↓g_gn, ↓g_isIntD_non, ↓g_isIntD_bl, ↓g_isIntD_int, ↓g_isIntD_str, ↓g_isIntD_tup, ↓g_isIntD_lst, ↓g_isBoolD_non, ↓g_isBoolD_bl, ↓g_isBoolD_int, ↓g_isBoolD_str, ↓g_isBoolD_tup, ↓g_isBoolD_lst, ↓g_isTupD_non, ↓g_isTupD_bl, ↓g_isTupD_int, ↓g_isTupD_str, ↓g_isTupD_tup, ↓g_isTupD_lst, ↓g_isStrD_non, ↓g_isStrD_bl, ↓g_isStrD_int, ↓g_isStrD_str, ↓g_isStrD_tup, ↓g_isStrD_lst, ↓g_own_non, ↓g_own_bl, ↓g_own_int, ↓g_own_str, ↓g_own_tup, ↓g_own_lst, ↓g_own_ins, ↓g_eqi, ↓g_eqs, ↓g_nei, ↓g_nes, ↓p_bnd, ↓p_ret, ↓p_none, ↓p_fr, ↓p_and, ↓p_or, ↓p_not, ↓p_ifE, ↓p_bl, ↓p_nil, ↓p_cons, ↓p_tup, ↓p_lst, ↓p_drop, ↓p_rt, ↓p_mif, ↓p_for, ↓p_gNil, ↓p_gV, ↓p_gApp, ↓p_rV, ↓p_if, cs_un, cs_fr, List.length_cons, List.length_nil, List.length_map, Nat.zero_add, insD_i, decide_eq_true_eq, Bool.not_eq_true', Bool.not_true, Bool.not_false, decide_eq_false_iff_not, true_and, and_true, ne_eq, not_false_eq_true, List.lookup_cons, Nat.reduceAdd, isN_non, isN_bl, isN_int, isN_str, isN_tup, isN_lst, ↓reduceIte]
    exact ⟨_, _, _, _, _, _, _, _, _, _, rfl⟩
  · rintro a ⟨x1, x2, x3, x4, x5, x6, x7, x8, x9, x10, rfl⟩
    simp (decide := true) only [rowD, rowO, List.append_nil, List.cons_append, List.nil_append, ↓k_some, ↓k_no, ↓k_ite, ↓getK_0, ↓getK_s, ↓setK_0, ↓setK_s, ↓ff_0, ↓ff_s, ↓ff_o, ↓fo_l, ↓fo_i, ↓fk_fr, ↓fk_ow, ↓vk_fr, ↓vk_ow, ↓vw_fr, ↓vw_l, ↓mv_fr, ↓mv_ow, ↓sq_nx, ↓sq_bk, ↓sq_ct, ↓sq_rt, ↓fi_rt, ↓fi_nx, ↓ou_0, ↓ou_fr, ↓ou_ow, ↓ou_un, ↓ou_of, ↓ou_on, ↓un_00, ↓un_0s, ↓un_s, ↓rk_fr, ↓rk_un, ↓rk_ow, ↓ak_l, ↓lk_l, ↓si_l, ↓ls_0, ↓ls_s, ↓gb_fr, ↓gb_ow, ↓rb_fr, ↓rb_ow, ↓to_0, ↓to_v, ↓to_b, ↓to_map, ↓to_mapn, ↓tb_fr, ↓tb_ow, ↓bk_0, ↓bk_v, ↓bk_bi, ↓ba_0, ↓ba_s, ↓bk_mapf, ↓bk_mapn, ↓bb_fr, ↓bb_ow, ↓ui_un, ↓set_tag, ↓set_tagf, ↓df_0, ↓sp_0, ↓sp_n, ↓sp_s, ↓fs_0, ↓fs_s, ↓fs_map, ↓ct_0, ↓ct_fr, ↓ct_un, ↓ct_ow, ↓ap_00, ↓ap_0s, ↓ap_s, ↓as_0, ↓as_s, ↓in_v, ↓in_b, ↓ib_fr, ↓ib_ow, ↓fl_v, ↓fr_fd, ↓fl_b, ↓fb_fr, ↓fb_ow, ↓get_look, ↓ln_i, ↓sf_fr, ↓sf_ow, ↓mk_r, ↓w_var, ↓w_view, ↓w_lift, ↓w_frz, ↓w_m1, ↓w_m2, ↓w_mV2, ↓w_m2V, ↓w_tst, ↓w_isN, ↓w_notN, ↓bv_bl, ↓w_andV, ↓w_orV, ↓nv_bl, ↓w_notV, ↓w_ch, ↓pt_i, ↓w_part, ↓w_sl, ↓w_slV, ↓w_cal, ↓w_lenV, ↓w_is, ↓w_isO, ↓w_put, ↓w_set, ↓w_move, ↓w_seq, ↓w_asg, ↓w_app, ↓w_setI, ↓w_items, ↓w_gB, ↓w_rB, ↓w_cl, ↓w_callA, ↓w_gStar, ↓w_fld, ↓get_d1, ↓w_mth, ↓w_mthS, ↓w_prp, ↓w_lenO, ↓w_own2, ↓w_ownB, ↓w_augO, ↓w_setF, ↓w_fn, ↓w_mk, ↓w_arg, ↓w_any, ↓w_kw, ↓selR, ↓selA, ↓sQ_0, ↓sQ_s, ↓st_nx, ↓st_ct, ↓st_bk, ↓st_rt, ↓w_lc, ↓g_ixt, ↓g_ixl, ↓g_ixs, ↓at_0, ↓at_1, ↓at_2, ↓at_3, ↓ix_0, ↓ix_1, ↓ix_2, ↓g_addi, ↓g_adds, ↓g_addt, ↓g_addl, ↓g_muli, ↓g_mult, ↓g_mull, ↓g_sub, ↓g_div, ↓g_mod, ↓g_pow, ↓g_bD, ↓g_lt, ↓g_le, ↓g_gt, ↓g_ge, ↓g_neg, ↓g_bl, ↓g_int, ↓g_lent, ↓g_lenl, ↓g_lens, ↓g_list, ↓g_lisl, ↓g_tupt, ↓g_tupl, ↓g_max, ↓g_min, ↓g_itt, ↓g_itl, ↓g_its, ↓g_slt, ↓g_sll, ↓g_sls, ↓g_rng1, ↓g_rng2, ↓g_enum, ↓g_nm, ↓g_tp, ↓g_gc, ↓g_gn, ↓g_isIntD_non, ↓g_isIntD_bl, ↓g_isIntD_int, ↓g_isIntD_str, ↓g_isIntD_tup, ↓g_isIntD_lst, ↓g_isBoolD_non, ↓g_isBoolD_bl, ↓g_isBoolD_int, ↓g_isBoolD_str, ↓g_isBoolD_tup, ↓g_isBoolD_lst, ↓g_isTupD_non, ↓g_isTupD_bl, ↓g_isTupD_int, ↓g_isTupD_str, ↓g_isTupD_tup, ↓g_isTupD_lst, ↓g_isStrD_non, ↓g_isStrD_bl, ↓g_isStrD_int, ↓g_isStrD_str, ↓g_isStrD_tup, ↓g_isStrD_lst, ↓g_own_non, ↓g_own_bl, ↓g_own_int, ↓g_own_str, ↓g_own_tup, ↓g_own_lst, ↓g_own_ins, ↓g_eqi, ↓g_eqs, ↓g_nei, ↓g_nes, ↓p_bnd, ↓p_ret, ↓p_none, ↓p_fr, ↓p_and, ↓p_or, ↓p_not, ↓p_ifE, ↓p_bl, ↓p_nil, ↓p_cons, ↓p_tup, ↓p_lst, ↓p_drop, ↓p_rt, ↓p_mif, ↓p_for, ↓p_gNil, ↓p_gV, ↓p_gApp, ↓p_rV, ↓p_if, cs_un, cs_fr, List.length_cons, List.length_nil, List.length_map, Nat.zero_add, insD_i, decide_eq_true_eq, Bool.not_eq_true', Bool.not_true, Bool.not_false, decide_eq_false_iff_not, true_and, and_true, ne_eq, not_false_eq_true, List.lookup_cons, Nat.reduceAdd, isN_non, isN_bl, isN_int, isN_str, isN_tup, isN_lst, ↓reduceIte]

theorem law_true (Z : Cs) : ∀ ns : List Int, ns.length ≤ 63 → ∃ as', f_law Z [.fr (.scr (ns.map .int))] = some (.ok (.fr (.bl true)) as') := fun ns hn => by
  obtain ⟨r, as', e, rfl⟩ := law_spec (Z := Z) hn
  exact ⟨as', e⟩

end Law
end
section
namespace Law
open PySem PySem.Spec PyProof.Rows L2 L3
theorem body {P : Program} {w : World} {K : PySem.W.Frag} {h : Heap} {mg : Str → Option Value} {fa : Addr} (KX : K.In h) (G : h.Ns mainGlobals mg) (c : SaysX (fun K => andAll (fb K)) fn K) (hm : mg "law" = some (.ref fa)) :
    ∃ (K : PySem.W.Frag) (fd : FuncData) (fm : FM), K.In h ∧ (∀ (s : Shared) (u : Value), BindsTo s fd ⟨[u], []⟩ [("script", u)]) ∧
        (∀ ns : List Int, ns.length ≤ 63 → ∃ as', fm [.fr (.scr (ns.map .int))] = some (.ok (.fr (.bl true)) as')) ∧
        ∀ base : Heap, K.In base → base.Ns mainGlobals mg → FnG P w K mg base (L2.CX P w) 11 fa fd ["script"] (spM K 1 fm) := by
  obtain ⟨Z, T, ea, hb⟩ := facts KX G c
  have e2 : T.a_law = fa := Value.ref.inj (Option.some.inj (T.g_law.symm.trans hm))
  subst e2
  exact ⟨K, T.d_law, f_law Z, KX, hb, law_true Z, fun base _ _ => ok_law T⟩
end Law
end
open PySem PySem.W PySem.Calls PyProof.Rows
theorem Law.law_name : (HandSHeadRun.topDef (OpenLaw.row PySem.Challenge.rw_wishedtongues_k53_rows_made).prog 41).name = ("law" : PySem.Str) := by kernel_rfl
theorem PySem.Challenge.cw_wishedtongues_k53_rows_made_holds : PySem.Challenge.rw_wishedtongues_k53_rows_made.Holds := by
  w_on; o_law
  refine HandSHeadRun.head_any (r := OpenLaw.row PySem.Challenge.rw_wishedtongues_k53_rows_made) (q := view (OpenLaw.row PySem.Challenge.rw_wishedtongues_k53_rows_made).prog [41]) (H := Law.hk) (ob := Law.ob) (M := 4000) (loose := Law.loose) (d := HandSHeadRun.topDef (OpenLaw.row PySem.Challenge.rw_wishedtongues_k53_rows_made).prog 41) (kwd := []) Law.ob_eq
    (by kernel_rfl) (fun s => by kernel_rfl) Law.run (by kernel_rfl) (by kernel_rfl) (by kernel_rfl) (by rfl) (by first | assumption | decide +kernel) (by decide +kernel) ⟨rfl, rfl, rfl, rfl, rfl, by decide +kernel⟩ ?hw ?hc
  case hw => w_witness2
  case hc =>
    refine L3.walkG (l := PySem.Challenge.rw_wishedtongues_k53_rows_made) (n := 63) (k := 11) (x := "script") rfl (by decide) (by kernel_rfl) ⟨rfl, by decide, by decide⟩ ?F
    intro w mg fa h Y G hmg0
    obtain ⟨K, KX, c⟩ := Y
    exact Law.body KX G c ((congrArg mg Law.law_name).symm.trans hmg0)
