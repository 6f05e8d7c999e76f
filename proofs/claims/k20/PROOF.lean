import PyProof.Rows.All
import Wide.All
import OpenK.AllK
import Wide.FinOn
import HandS.ForMost
import HandS.ForExc
import HandS.More
import HandS.Zip
import HandS.IsInst
import HandS.Wide
import HandS.FStr
import HandS.Style
import HandS.EndBits
import KE.GoesEnum
import HandS.ExcIs
import HandS.HotCalls
import HandS.WideBits
import KE.BitLaws
import HandS.ExcOwn
import HandS.TryOnly
import KE.KStateDown
import HandS.RaiseMore
import HandS.Words
import HandS.Text
import KE.GoesMore
import HandS.Star
import HandS.Strs
import PySem.Challenge.RW_sealgrove_k20_kinds_of_trees
set_option Elab.async false
set_option linter.all false
set_option maxRecDepth 100000
set_option maxHeartbeats 4000000
namespace VL
open PySem PySem.Spec PyProof.Rows L2

/-! ### data -/
inductive D where
  | non | bl (b : Bool) | int (i : Int) | str (s : Str) | ref (a : Addr) | ty (n : String)
  | lst (xs : List D) | tup (xs : List D) | ro (xs : List D) | ct (xs : List D)
  | obj (C : Nat) (fs : List (Str × D)) | exc (C : Nat) | cls (n : Nat)
  deriving Inhabited

inductive R (α : Type) where
  | ok (a : α) | er (C : Nat) | no
def R.bind {α β : Type} (x : R α) (f : α → R β) : R β := match x with
  | .ok a => f a
  | .er C => .er C
  | .no => .no
theorem R.bind_ok {α β : Type} (a : α) (f : α → R β) : (R.ok a).bind f = f a := rfl
theorem R.bind_er {α β : Type} (C : Nat) (f : α → R β) : (R.er C : R α).bind f = .er C := rfl
theorem R.bind_no {α β : Type} (f : α → R β) : (R.no : R α).bind f = .no := rfl

/-- where the text's own classes stand; which addresses are caught errors; where an instance of its own stands, and its dict -/
structure Cs where
  cl : Nat → Addr
  ex : Addr → Nat → Prop
  me : Addr
  md : Addr
/-- the instance that __init__ has, and its dict -/
abbrev Cs.at (c : Cs) (p d : Addr) : Cs := ⟨c.cl, c.ex, p, d⟩
mutual
inductive Rep (K : PySem.W.Frag) (c : Cs) (B : Hp) : D → V → Prop
  | non : Rep K c B .non .non
  | bl (b : Bool) : Rep K c B (.bl b) (.bl b)
  | int (i : Int) : Rep K c B (.int i) (.int i)
  | str (s : Str) : Rep K c B (.str s) (.str s)
  | ref (a : Addr) : Rep K c B (.ref a) (.ref a)
  | ty (n : String) : Rep K c B (.ty n) (.ty n)
  | lst {a : Addr} {vs : List V} {xs : List D} : B a = some (.lst vs) → RepL K c B xs vs → Rep K c B (.lst xs) (.ref a)
  | tup {a : Addr} {vs : List V} {xs : List D} : B a = some (.tup vs) → RepL K c B xs vs → Rep K c B (.tup xs) (.ref a)
  | ro {a : Addr} {vs : List V} {xs : List D} : SqL K B a vs → RepL K c B xs vs → Rep K c B (.ro xs) (.ref a)
  | ct {a : Addr} {vs : List V} {xs : List D} : SqT K B a vs → RepL K c B xs vs → Rep K c B (.ct xs) (.ref a)
  | obj {a dx : Addr} {C : Nat} {fs : List (Str × D)} {gs : List (Str × V)} : B a = some (.ins (c.cl C) dx gs) → RepF K c B fs gs → Rep K c B (.obj C fs) (.ref a)
  | exc {a : Addr} {C : Nat} : c.ex a C → Rep K c B (.exc C) (.ref a)
  | cls (n : Nat) : Rep K c B (.cls n) (.ref (c.cl n))
inductive RepL (K : PySem.W.Frag) (c : Cs) (B : Hp) : List D → List V → Prop
  | nil : RepL K c B [] []
  | cons {d : D} {v : V} {ds : List D} {vs : List V} : Rep K c B d v → RepL K c B ds vs → RepL K c B (d :: ds) (v :: vs)
inductive RepF (K : PySem.W.Frag) (c : Cs) (B : Hp) : List (Str × D) → List (Str × V) → Prop
  | nil : RepF K c B [] []
  | cons {f : Str} {d : D} {v : V} {ds : List (Str × D)} {vs : List (Str × V)} : Rep K c B d v → RepF K c B ds vs → RepF K c B ((f, d) :: ds) ((f, v) :: vs)
end
section
variable {K : PySem.W.Frag} {c : Cs} {B B' : Hp}
mutual
theorem Rep.up (e : Same B B') : ∀ {d : D} {v : V}, Rep K c B d v → Rep K c B' d v
  | _, _, .non => .non
  | _, _, .bl b => .bl b
  | _, _, .int i => .int i
  | _, _, .str s => .str s
  | _, _, .ref a => .ref a
  | _, _, .ty n => .ty n
  | _, _, .lst h r => .lst (e _ _ h) (RepL.up e r)
  | _, _, .tup h r => .tup (e _ _ h) (RepL.up e r)
  | _, _, .ro h r => .ro (e.seq h) (RepL.up e r)
  | _, _, .ct h r => .ct (by
      rcases h with (h | ⟨o, h⟩) | h
      · exact .inl (.inl (e _ _ h))
      · exact .inl (.inr ⟨o, e _ _ h⟩)
      · exact .inr h) (RepL.up e r)
  | _, _, .obj h r => .obj (e _ _ h) (RepF.up e r)
  | _, _, .exc h => .exc h
  | _, _, .cls n => .cls n
theorem RepL.up (e : Same B B') : ∀ {ds : List D} {vs : List V}, RepL K c B ds vs → RepL K c B' ds vs
  | _, _, .nil => .nil
  | _, _, .cons h r => .cons (Rep.up e h) (RepL.up e r)
theorem RepF.up (e : Same B B') : ∀ {ds : List (Str × D)} {vs : List (Str × V)}, RepF K c B ds vs → RepF K c B' ds vs
  | _, _, .nil => .nil
  | _, _, .cons h r => .cons (Rep.up e h) (RepF.up e r)
end
theorem RepL.length : ∀ {ds : List D} {vs : List V}, RepL K c B ds vs → ds.length = vs.length
  | _, _, .nil => rfl
  | _, _, .cons _ r => by simp [RepL.length r]
theorem RepL.get : ∀ {ds : List D} {vs : List V} {i : Nat} {d : D}, RepL K c B ds vs → ds[i]? = some d → ∃ v, vs[i]? = some v ∧ Rep K c B d v
  | _, _, _, _, .nil, e => by simp at e
  | _, _, 0, _, .cons r _, e => by simp at e; subst e; exact ⟨_, rfl, r⟩
  | _, _, i + 1, d, .cons _ t, e => by
    obtain ⟨u, h1, h2⟩ := RepL.get (i := i) (d := d) t (by simpa using e)
    exact ⟨u, by simpa using h1, h2⟩
theorem RepL.getV : ∀ {ds : List D} {vs : List V} {i : Nat} {v : V}, RepL K c B ds vs → vs[i]? = some v → ∃ d, ds[i]? = some d ∧ Rep K c B d v
  | _, _, _, _, .nil, e => by simp at e
  | _, _, 0, _, .cons r _, e => by simp at e; subst e; exact ⟨_, rfl, r⟩
  | _, _, i + 1, d, .cons _ t, e => by
    obtain ⟨u, h1, h2⟩ := RepL.getV (i := i) (v := d) t (by simpa using e)
    exact ⟨u, by simpa using h1, h2⟩
theorem RepL.append : ∀ {ds es : List D} {vs ws : List V}, RepL K c B ds vs → RepL K c B es ws → RepL K c B (ds ++ es) (vs ++ ws)
  | _, _, _, _, .nil, s => s
  | _, _, _, _, .cons r t, s => .cons r (RepL.append t s)
theorem RepL.take : ∀ {ds : List D} {vs : List V} (n : Nat), RepL K c B ds vs → RepL K c B (ds.take n) (vs.take n)
  | _, _, 0, _ => .nil
  | _, _, _ + 1, .nil => .nil
  | _, _, n + 1, .cons r t => .cons r (RepL.take n t)
theorem RepL.drop : ∀ {ds : List D} {vs : List V} (n : Nat), RepL K c B ds vs → RepL K c B (ds.drop n) (vs.drop n)
  | _, _, 0, r => r
  | _, _, _ + 1, .nil => .nil
  | _, _, n + 1, .cons _ t => RepL.drop n t
theorem RepL.set {d : D} {v : V} (r : Rep K c B d v) : ∀ {ds : List D} {vs : List V} (i : Nat), RepL K c B ds vs → RepL K c B (ds.set i d) (vs.set i v)
  | _, _, _, .nil => .nil
  | _, _, 0, .cons _ t => .cons r t
  | _, _, i + 1, .cons q t => .cons q (RepL.set r i t)
theorem RepL.rep {ds : List D} {vs : List V} (r : RepL K c B ds vs) : ∀ k : Nat, RepL K c B (List.replicate k ds).flatten (List.replicate k vs).flatten
  | 0 => .nil
  | k + 1 => by
    simp only [List.replicate_succ, List.flatten_cons]
    exact r.append (r.rep k)
theorem RepL.rev : ∀ {ds : List D} {vs : List V}, RepL K c B ds vs → RepL K c B ds.reverse vs.reverse
  | _, _, .nil => .nil
  | _, _, .cons r t => by
    simp only [List.reverse_cons]
    exact (RepL.rev t).append (.cons r .nil)
theorem RepF.look : ∀ {fs : List (Str × D)} {gs : List (Str × V)} {f : Str} {d : D}, RepF K c B fs gs → fs.lookup f = some d → ∃ v, gs.lookup f = some v ∧ Rep K c B d v
  | _, _, _, _, .nil, e => by simp at e
  | (g, x) :: r, (_, y) :: s, f, d, .cons h t, e => by
    by_cases q : f = g
    · subst q
      simp [List.lookup] at e ⊢
      subst e
      exact h
    · have q' : (f == g) = false := by simpa using q
      simp only [List.lookup, q'] at e ⊢
      exact RepF.look t e
theorem RepF.lookNone : ∀ {fs : List (Str × D)} {gs : List (Str × V)} {f : Str}, RepF K c B fs gs → fs.lookup f = none → gs.lookup f = none
  | _, _, _, .nil, e => by simp
  | (g, x) :: r, (_, y) :: s, f, .cons h t, e => by
    by_cases q : f = g
    · subst q
      simp [List.lookup] at e
    · have q' : (f == g) = false := by simpa using q
      simp only [List.lookup, q'] at e ⊢
      exact RepF.lookNone t e
end

/-- what is wanted of an exception; where the text's own classes stand -/
structure Ws where
  W : WX
  c : Cs
/-! ### slots and states -/
inductive Sl where
  | un | v (d : D) | o (ds : List D) | b (C : Nat) (fs : List (Str × D))
  deriving Inhabited
abbrev En := List Sl

theorem set_at {α : Type} {l : List α} {i : Nat} {x y : α} (h : (l.set i x)[i]? = some y) : i < l.length ∧ y = x := by
  by_cases hl : i < l.length
  · rw [List.getElem?_set_self hl] at h
    exact ⟨hl, (Option.some.inj h).symm⟩
  · have : (l.set i x)[i]? = none := List.getElem?_eq_none_iff.mpr (by simp; omega)
    rw [this] at h
    cases h
theorem set_un {ρ : List Sl} {i : Nat} {x y : Sl} (h : (ρ.set i x)[i]? = some y) (n : y ≠ x) : False := n (set_at h).2

structure Up (B H B' H' : Hp) : Prop where
  b : Same B B'
  bh : Same B' H'
  h : Same H H'
  out : ∀ a, H a ≠ none → B a = none → B' a = none
theorem Up.refl {B H : Hp} (s : Same B H) : Up B H B H := ⟨Same.refl _, s, Same.refl _, fun _ _ h => h⟩
theorem Same.some {H H' : Hp} (s : Same H H') {a : Addr} (h : H a ≠ none) : H' a ≠ none := by
  cases e : H a with
  | none => exact absurd e h
  | some o => rw [s a o e]; exact fun z => nomatch z
theorem Up.trans {B H B1 H1 B2 H2 : Hp} (p : Up B H B1 H1) (q : Up B1 H1 B2 H2) : Up B H B2 H2 :=
  ⟨p.b.trans q.b, q.bh, p.h.trans q.h, fun a h n => q.out a (VL.Same.some p.h h) (p.out a h n)⟩
/-- a new object, shared -/
theorem Up.new {B H : Hp} {p : Addr} {o : HO} (s : Same B H) (h : H p = none) : Up B H (upd B p o) (upd H p o) := by
  have hb : B p = none := s.free h
  refine ⟨fun a u e => ?_, fun a u e => ?_, fun a u e => ?_, fun a e n => ?_⟩
  · rw [upd_ne (ne_of_none e hb)]; exact e
  · by_cases q : a = p
    · subst q; rw [upd_same] at e ⊢; exact e
    · rw [upd_ne q] at e ⊢; exact s a u e
  · rw [upd_ne (ne_of_none e h)]; exact e
  · have q : a ≠ p := fun z => by subst z; exact e h
    rw [upd_ne q]; exact n
/-- a new object, kept apart -/
theorem Up.apart {B H : Hp} {p : Addr} {o : HO} (s : Same B H) (h : H p = none) : Up B H B (upd H p o) := by
  have hb : B p = none := s.free h
  refine ⟨Same.refl _, fun a u e => ?_, fun a u e => ?_, fun a e n => n⟩
  · rw [upd_ne (ne_of_none e hb)]; exact s a u e
  · rw [upd_ne (ne_of_none e h)]; exact e
/-- what stands apart is shared from now on -/
theorem Up.share {B H B' H' : Hp} {p : Addr} {o : HO} (u : Up B H B' H') (h : H p = none) (hp : H' p = some o) (n : B' p = none) : Up B H (upd B' p o) H' := by
  refine ⟨fun a u' e => ?_, fun a u' e => ?_, u.h, fun a e k => ?_⟩
  · have := u.b a u' e
    rw [upd_ne (ne_of_none this n)]; exact this
  · by_cases q : a = p
    · subst q; rw [upd_same] at e; rw [hp]; exact e
    · rw [upd_ne q] at e; exact u.bh a u' e
  · have q : a ≠ p := fun z => by subst z; exact e h
    rw [upd_ne q]; exact u.out a e k

structure RS (K : PySem.W.Frag) (c : Cs) (Fo B H : Hp) (ρ : En) (σ : L2.St) : Prop where
  len : σ.length = ρ.length
  bh : Same B H
  fh : Same Fo H
  fb : ∀ a, Fo a ≠ none → B a = none
  vals : ∀ (i : Nat) (d : D), ρ[i]? = some (.v d) → ∃ x, σ[i]? = some (some x) ∧ Rep K c B d x
  owns : ∀ (i : Nat) (ds : List D), ρ[i]? = some (.o ds) → ∃ p vs, σ[i]? = some (some (.ref p)) ∧ H p = some (.lst vs) ∧ RepL K c B ds vs ∧ B p = none ∧ Fo p = none
  sep : ∀ (i j : Nat) (p : Addr) (xs ys : List D), i ≠ j → ρ[i]? = some (.o xs) → ρ[j]? = some (.o ys) → σ[i]? = some (some (.ref p)) → σ[j]? = some (some (.ref p)) → False
  objs : ∀ (i : Nat) (C : Nat) (fs : List (Str × D)), ρ[i]? = some (.b C fs) → ∃ p dx gs, σ[i]? = some (some (.ref p)) ∧ H p = some (.ins (c.cl C) dx gs) ∧ RepF K c B fs gs ∧ B p = none ∧ Fo p = none ∧ p = c.me ∧ dx = c.md
  sepb : ∀ (i j : Nat) (p : Addr) (C C' : Nat) (xs ys : List (Str × D)), i ≠ j → ρ[i]? = some (.b C xs) → ρ[j]? = some (.b C' ys) → σ[i]? = some (some (.ref p)) → σ[j]? = some (some (.ref p)) → False
section
variable {K : PySem.W.Frag} {c : Cs} {Fo B H B' H' : Hp} {ρ : En} {σ : L2.St}
theorem RS.up (r : RS K c Fo B H ρ σ) (u : Up B H B' H') : RS K c Fo B' H' ρ σ where
  len := r.len
  bh := u.bh
  fh := r.fh.trans u.h
  fb := fun a h => u.out a (VL.Same.some r.fh h) (r.fb a h)
  vals := fun i d e => let ⟨x, h1, h2⟩ := r.vals i d e; ⟨x, h1, h2.up u.b⟩
  owns := fun i ds e => let ⟨p, vs, h1, h2, h3, h4, h5⟩ := r.owns i ds e; ⟨p, vs, h1, u.h _ _ h2, h3.up u.b, u.out p (by rw [h2]; exact fun z => nomatch z) h4, h5⟩
  sep := r.sep
  objs := fun i C fs e => let ⟨p, dx, gs, h1, h2, h3, h4, h5⟩ := r.objs i C fs e; ⟨p, dx, gs, h1, u.h _ _ h2, h3.up u.b, u.out p (by rw [h2]; exact fun z => nomatch z) h4, h5⟩
  sepb := r.sepb
theorem RS.same (r : RS K c Fo B H ρ σ) : Up B H B H := Up.refl r.bh
/-- a slot is given a shared value -/
theorem RS.setV (r : RS K c Fo B H ρ σ) (i : Nat) {d : D} {x : V} (h : Rep K c B d x) : RS K c Fo B H (ρ.set i (.v d)) (σ.set i (some x)) where
  len := by simp [r.len]
  bh := r.bh
  fh := r.fh
  fb := r.fb
  vals := fun j e q => by
    by_cases hj : i = j
    · subst hj
      obtain ⟨hl, e1⟩ := set_at q
      cases e1
      rw [List.getElem?_set_self (by rw [r.len]; exact hl)]
      exact ⟨x, rfl, h⟩
    · rw [List.getElem?_set_ne hj] at q
      rw [List.getElem?_set_ne hj]
      exact r.vals j e q
  owns := fun j e q => by
    by_cases hj : i = j
    · subst hj
      exact (set_un q (fun z => nomatch z)).elim
    · rw [List.getElem?_set_ne hj] at q
      rw [List.getElem?_set_ne hj]
      exact r.owns j e q
  sep := fun j k p xs ys hjk q1 q2 e1 e2 => by
    by_cases hj : i = j
    · subst hj
      exact (set_un q1 (fun z => nomatch z)).elim
    · by_cases hk : i = k
      · subst hk
        exact (set_un q2 (fun z => nomatch z)).elim
      · rw [List.getElem?_set_ne hj] at q1 e1
        rw [List.getElem?_set_ne hk] at q2 e2
        exact r.sep j k p xs ys hjk q1 q2 e1 e2
  objs := fun j C e q => by
    by_cases hj : i = j
    · subst hj
      exact (set_un q (fun z => nomatch z)).elim
    · rw [List.getElem?_set_ne hj] at q
      rw [List.getElem?_set_ne hj]
      exact r.objs j C e q
  sepb := fun j k p C C' xs ys hjk q1 q2 e1 e2 => by
    by_cases hj : i = j
    · subst hj
      exact (set_un q1 (fun z => nomatch z)).elim
    · by_cases hk : i = k
      · subst hk
        exact (set_un q2 (fun z => nomatch z)).elim
      · rw [List.getElem?_set_ne hj] at q1 e1
        rw [List.getElem?_set_ne hk] at q2 e2
        exact r.sepb j k p C C' xs ys hjk q1 q2 e1 e2
/-- a slot is forgotten, whatever it holds -/
theorem RS.setU (r : RS K c Fo B H ρ σ) (i : Nat) (x : Option V) : RS K c Fo B H (ρ.set i .un) (σ.set i x) where
  len := by simp [r.len]
  bh := r.bh
  fh := r.fh
  fb := r.fb
  vals := fun j e q => by
    by_cases hj : i = j
    · subst hj
      exact (set_un q (fun z => nomatch z)).elim
    · rw [List.getElem?_set_ne hj] at q
      rw [List.getElem?_set_ne hj]
      exact r.vals j e q
  owns := fun j e q => by
    by_cases hj : i = j
    · subst hj
      exact (set_un q (fun z => nomatch z)).elim
    · rw [List.getElem?_set_ne hj] at q
      rw [List.getElem?_set_ne hj]
      exact r.owns j e q
  sep := fun j k p xs ys hjk q1 q2 e1 e2 => by
    by_cases hj : i = j
    · subst hj
      exact (set_un q1 (fun z => nomatch z)).elim
    · by_cases hk : i = k
      · subst hk
        exact (set_un q2 (fun z => nomatch z)).elim
      · rw [List.getElem?_set_ne hj] at q1 e1
        rw [List.getElem?_set_ne hk] at q2 e2
        exact r.sep j k p xs ys hjk q1 q2 e1 e2
  objs := fun j C e q => by
    by_cases hj : i = j
    · subst hj
      exact (set_un q (fun z => nomatch z)).elim
    · rw [List.getElem?_set_ne hj] at q
      rw [List.getElem?_set_ne hj]
      exact r.objs j C e q
  sepb := fun j k p C C' xs ys hjk q1 q2 e1 e2 => by
    by_cases hj : i = j
    · subst hj
      exact (set_un q1 (fun z => nomatch z)).elim
    · by_cases hk : i = k
      · subst hk
        exact (set_un q2 (fun z => nomatch z)).elim
      · rw [List.getElem?_set_ne hj] at q1 e1
        rw [List.getElem?_set_ne hk] at q2 e2
        exact r.sepb j k p C C' xs ys hjk q1 q2 e1 e2
/-- a slot is given a list of its own, new at p -/
theorem RS.setO (r : RS K c Fo B H ρ σ) (i : Nat) {ds : List D} {p : Addr} {vs : List V} (hp : H p = some (.lst vs)) (h : RepL K c B ds vs) (hb : B p = none) (hf : Fo p = none)
    (nw : ∀ (j : Nat) xs, j ≠ i → ρ[j]? = some (.o xs) → σ[j]? ≠ some (some (.ref p))) : RS K c Fo B H (ρ.set i (.o ds)) (σ.set i (some (.ref p))) where
  len := by simp [r.len]
  bh := r.bh
  fh := r.fh
  fb := r.fb
  vals := fun j e q => by
    by_cases hj : i = j
    · subst hj
      exact (set_un q (fun z => nomatch z)).elim
    · rw [List.getElem?_set_ne hj] at q
      rw [List.getElem?_set_ne hj]
      exact r.vals j e q
  owns := fun j e q => by
    by_cases hj : i = j
    · subst hj
      obtain ⟨hl, e1⟩ := set_at q
      cases e1
      rw [List.getElem?_set_self (by rw [r.len]; exact hl)]
      exact ⟨p, vs, rfl, hp, h, hb, hf⟩
    · rw [List.getElem?_set_ne hj] at q
      rw [List.getElem?_set_ne hj]
      exact r.owns j e q
  sep := fun j k p' xs ys hjk q1 q2 e1 e2 => by
    by_cases hj : i = j
    · subst hj
      rw [List.getElem?_set_ne hjk] at q2 e2
      have z := (set_at e1).2
      cases z
      exact nw k ys (Ne.symm hjk) q2 e2
    · by_cases hk : i = k
      · subst hk
        rw [List.getElem?_set_ne hj] at q1 e1
        have z := (set_at e2).2
        cases z
        exact nw j xs hjk q1 e1
      · rw [List.getElem?_set_ne hj] at q1 e1
        rw [List.getElem?_set_ne hk] at q2 e2
        exact r.sep j k p' xs ys hjk q1 q2 e1 e2
  objs := fun j C e q => by
    by_cases hj : i = j
    · subst hj
      exact (set_un q (fun z => nomatch z)).elim
    · rw [List.getElem?_set_ne hj] at q
      rw [List.getElem?_set_ne hj]
      exact r.objs j C e q
  sepb := fun j k p C C' xs ys hjk q1 q2 e1 e2 => by
    by_cases hj : i = j
    · subst hj
      exact (set_un q1 (fun z => nomatch z)).elim
    · by_cases hk : i = k
      · subst hk
        exact (set_un q2 (fun z => nomatch z)).elim
      · rw [List.getElem?_set_ne hj] at q1 e1
        rw [List.getElem?_set_ne hk] at q2 e2
        exact r.sepb j k p C C' xs ys hjk q1 q2 e1 e2
/-- an own list is written -/
theorem RS.write (r : RS K c Fo B H ρ σ) {i : Nat} {ds es : List D} {p : Addr} {ws : List V} (hi : ρ[i]? = some (.o ds)) (hs : σ[i]? = some (some (.ref p))) (h : RepL K c B es ws) :
    RS K c Fo B (upd H p (.lst ws)) (ρ.set i (.o es)) σ := by
  obtain ⟨p', vs, h1, h2, h3, h4, h5⟩ := r.owns i ds hi
  rw [hs] at h1
  cases h1
  have hl : i < σ.length := (List.getElem?_eq_some_iff.mp hs).1
  have hσ : σ.set i (some (.ref p)) = σ := by
    apply List.ext_getElem?
    intro j
    by_cases hj : i = j
    · subst hj
      rw [List.getElem?_set_self hl, hs]
    · rw [List.getElem?_set_ne hj]
  have keep : ∀ a o, a ≠ p → H a = some o → upd H p (.lst ws) a = some o := fun a o n e => by rw [upd_ne n]; exact e
  have r' : RS K c Fo B (upd H p (.lst ws)) (ρ.set i .un) (σ.set i (some (.ref p))) := by
    have r0 := r.setU i (some (.ref p))
    refine ⟨r0.len, fun a o e => keep a o (ne_of_none e h4) (r.bh a o e), fun a o e => keep a o (ne_of_none e h5) (r.fh a o e), r.fb, r0.vals, fun j xs q => ?_, r0.sep, fun j C xs q => ?_, r0.sepb⟩
    case refine_2 =>
      obtain ⟨p2, dx, gs, a1, a2, a3, a4, a5⟩ := r0.objs j C xs q
      refine ⟨p2, dx, gs, a1, keep _ _ (fun z => ?_) a2, a3, a4, a5⟩
      rw [z, h2] at a2
      cases a2
    obtain ⟨p2, vs2, a1, a2, a3, a4, a5⟩ := r0.owns j xs q
    refine ⟨p2, vs2, a1, keep _ _ ?_ a2, a3, a4, a5⟩
    rintro rfl
    have hj : i ≠ j := by
      rintro rfl
      exact (set_un q (fun z => nomatch z)).elim
    rw [List.getElem?_set_ne hj] at q a1
    exact r.sep i j _ _ _ hj hi q hs a1
  have r2 := r'.setO i (ds := es) (p := p) (vs := ws) upd_same h h4 h5 (fun j xs hj q e => by
    rw [List.getElem?_set_ne (Ne.symm hj)] at q e
    exact r.sep i j _ _ _ (Ne.symm hj) hi q hs e)
  rw [List.set_set, List.set_set, hσ] at r2
  exact r2
/-- an own list is shared from now on -/
theorem RS.freeze (r : RS K c Fo B H ρ σ) {i : Nat} {ds : List D} (hi : ρ[i]? = some (.o ds)) : ∃ B', Same B B' ∧ RS K c Fo B' H (ρ.set i (.v (.lst ds))) σ := by
  obtain ⟨p, vs, h1, h2, h3, h4, h5⟩ := r.owns i ds hi
  have hl : i < σ.length := (List.getElem?_eq_some_iff.mp h1).1
  have hσ : σ.set i (some (.ref p)) = σ := by
    apply List.ext_getElem?
    intro j
    by_cases hj : i = j
    · subst hj
      rw [List.getElem?_set_self hl, h1]
    · rw [List.getElem?_set_ne hj]
  have sb : Same B (upd B p (.lst vs)) := fun a o e => by rw [upd_ne (ne_of_none e h4)]; exact e
  have r0 := r.setU i (some (.ref p))
  have r' : RS K c Fo (upd B p (.lst vs)) H (ρ.set i .un) (σ.set i (some (.ref p))) := by
    refine ⟨r0.len, fun a o e => ?_, r0.fh, fun a e => ?_, fun j d q => ?_, fun j xs q => ?_, r0.sep, fun j C xs q => ?_, r0.sepb⟩
    case refine_5 =>
      obtain ⟨p2, dx, gs, a1, a2, a3, a4, a5⟩ := r0.objs j C xs q
      refine ⟨p2, dx, gs, a1, a2, a3.up sb, ?_, a5⟩
      rw [upd_ne (fun z => ?_)]
      · exact a4
      · rw [z, h2] at a2
        cases a2
    · by_cases q : a = p
      · subst q; rw [upd_same] at e; rw [h2]; exact e
      · rw [upd_ne q] at e; exact r.bh a o e
    · have q : a ≠ p := fun z => by subst z; exact e h5
      rw [upd_ne q]; exact r.fb a e
    · obtain ⟨x, a1, a2⟩ := r0.vals j d q
      exact ⟨x, a1, a2.up sb⟩
    · obtain ⟨p2, vs2, a1, a2, a3, a4, a5⟩ := r0.owns j xs q
      refine ⟨p2, vs2, a1, a2, a3.up sb, ?_, a5⟩
      have np : p2 ≠ p := by
        rintro rfl
        have hj : i ≠ j := by
          rintro rfl
          exact (set_un q (fun z => nomatch z)).elim
        rw [List.getElem?_set_ne hj] at q a1
        exact r.sep i j _ _ _ hj hi q h1 a1
      rw [upd_ne np]; exact a4
  have r2 := r'.setV i (d := .lst ds) (x := .ref p) (.lst upd_same (h3.up sb))
  rw [List.set_set, List.set_set, hσ] at r2
  exact ⟨_, sb, r2⟩
end
end VL
set_option maxRecDepth 100000
set_option maxHeartbeats 4000000
namespace VL
open PySem PySem.Spec PyProof.Rows L2

/-- read at the top in the whole heap, its items shared -/
def RepT (K : PySem.W.Frag) (c : Cs) (B H : Hp) (d : D) (v : V) : Prop := Rep K c B d v ∨ ∃ xs p vs, d = .lst xs ∧ v = .ref p ∧ H p = some (.lst vs) ∧ RepL K c B xs vs
theorem RepT.of {K : PySem.W.Frag} {c : Cs} {B H : Hp} {d : D} {v : V} (h : Rep K c B d v) : RepT K c B H d v := .inl h
theorem RepT.up {K : PySem.W.Frag} {c : Cs} {B H B' H' : Hp} {d : D} {v : V} (h : RepT K c B H d v) (u : Up B H B' H') : RepT K c B' H' d v := by
  rcases h with h | ⟨xs, p, vs, e1, e2, e3, e4⟩
  · exact .inl (h.up u.b)
  · exact .inr ⟨xs, p, vs, e1, e2, u.h _ _ e3, e4.up u.b⟩
abbrev RepTL (K : PySem.W.Frag) (c : Cs) (B H : Hp) : List D → List V → Prop := Paired (RepT K c B H)

/-! ### what is wanted behind -/
def EPost (K : PySem.W.Frag) (W : Ws) (σ : L2.St) (B H : Hp) (r : R D) (Q : VK) : Prop := match r with
  | .ok d => ∀ v B' H', Up B H B' H' → Rep K W.c B' d v → Q v H'
  | .er C => ∀ B' H', Up B H B' H' → W.W (.ref (W.c.cl C)) none σ H'
  | .no => False
def PPost (K : PySem.W.Frag) (W : Ws) (σ : L2.St) (B H : Hp) (r : R D) (Q : VK) : Prop := match r with
  | .ok d => ∀ v B' H', Up B H B' H' → RepT K W.c B' H' d v → Q v H'
  | .er C => ∀ B' H', Up B H B' H' → W.W (.ref (W.c.cl C)) none σ H'
  | .no => False
def NPost (K : PySem.W.Frag) (W : Ws) (σ : L2.St) (B H : Hp) (r : R (List D)) (Q : VK) : Prop := match r with
  | .ok ds => ∀ p vs B' H', Up B H B' H' → B' p = none → H p = none → H' p = some (.lst vs) → RepL K W.c B' ds vs → Q (.ref p) H'
  | .er C => ∀ B' H', Up B H B' H' → W.W (.ref (W.c.cl C)) none σ H'
  | .no => False
def TPost (W : Ws) (σ : L2.St) (B H : Hp) (r : R Bool) (Q : Bool → Hp → Prop) : Prop := match r with
  | .ok b => ∀ B' H', Up B H B' H' → Q b H'
  | .er C => ∀ B' H', Up B H B' H' → W.W (.ref (W.c.cl C)) none σ H'
  | .no => False
def APost (K : PySem.W.Frag) (W : Ws) (σ : L2.St) (B H : Hp) (r : R (List D)) (Q : List V → Hp → Prop) : Prop := match r with
  | .ok ds => ∀ vs B' H', Up B H B' H' → RepL K W.c B' ds vs → Q vs H'
  | .er C => ∀ B' H', Up B H B' H' → W.W (.ref (W.c.cl C)) none σ H'
  | .no => False
def APostP (K : PySem.W.Frag) (W : Ws) (σ : L2.St) (B H : Hp) (r : R (List D)) (Q : List V → Hp → Prop) : Prop := match r with
  | .ok ds => ∀ vs B' H', Up B H B' H' → RepTL K W.c B' H' ds vs → Q vs H'
  | .er C => ∀ B' H', Up B H B' H' → W.W (.ref (W.c.cl C)) none σ H'
  | .no => False

structure VE (X : Cx) (W : Ws) (e : Expr) (t : TE) (f : En → R D) : Prop where
  pe : PE X e t
  ok : ∀ Fo B H ρ σ Q, RS X.K W.c Fo B H ρ σ → EPost X.K W σ B H (f ρ) Q → t σ H Q
structure VP (X : Cx) (W : Ws) (e : Expr) (t : TE) (f : En → R D) : Prop where
  pe : PE X e t
  ok : ∀ Fo B H ρ σ Q, RS X.K W.c Fo B H ρ σ → PPost X.K W σ B H (f ρ) Q → t σ H Q
structure VN (X : Cx) (W : Ws) (e : Expr) (t : TE) (f : En → R (List D)) : Prop where
  pe : PE X e t
  ok : ∀ Fo B H ρ σ Q, RS X.K W.c Fo B H ρ σ → NPost X.K W σ B H (f ρ) Q → t σ H Q
structure VT (X : Cx) (W : Ws) (e : Expr) (t : TT) (f : En → R Bool) : Prop where
  pe : PT X e t
  ok : ∀ Fo B H ρ σ Q, RS X.K W.c Fo B H ρ σ → TPost W σ B H (f ρ) Q → t σ H Q
structure VW (X : Cx) (W : Ws) (e : Expr) (t : TT) (f : En → R Bool) : Prop where
  pe : PW X e t
  ok : ∀ Fo B H ρ σ Q, RS X.K W.c Fo B H ρ σ → TPost W σ B H (f ρ) Q → t σ H Q
structure VA (X : Cx) (W : Ws) (es : List Expr) (t : TA) (f : En → R (List D)) : Prop where
  pe : PA X es t
  ok : ∀ Fo B H ρ σ Q, RS X.K W.c Fo B H ρ σ → APost X.K W σ B H (f ρ) Q → t σ H Q
structure VAP (X : Cx) (W : Ws) (es : List Expr) (t : TA) (f : En → R (List D)) : Prop where
  pe : PA X es t
  ok : ∀ Fo B H ρ σ Q, RS X.K W.c Fo B H ρ σ → APostP X.K W σ B H (f ρ) Q → t σ H Q

/-! ### readings of environments -/
def dVar (i : Nat) : En → R D := fun ρ => match ρ[i]? with
  | some (.v d) => .ok d
  | _ => .no
def dPeek (i : Nat) : En → R D := fun ρ => match ρ[i]? with
  | some (.v d) => .ok d
  | some (.o ds) => .ok (.lst ds)
  | _ => .no
def dC (d : D) : En → R D := fun _ => .ok d
def dNew (f : En → R (List D)) : En → R D := fun ρ => (f ρ).bind fun xs => .ok (.lst xs)
def ofO {α : Type} : Option α → R α
  | some a => .ok a
  | none => .no
def dBin (g : D → D → Option D) (fa fb : En → R D) : En → R D := fun ρ => (fa ρ).bind fun x => (fb ρ).bind fun y => ofO (g x y)
def dBinN (g : D → D → Option (List D)) (fa fb : En → R D) : En → R (List D) := fun ρ => (fa ρ).bind fun x => (fb ρ).bind fun y => ofO (g x y)
def dUn (g : D → Option D) (fa : En → R D) : En → R D := fun ρ => (fa ρ).bind fun x => ofO (g x)
def dBl (f : En → R D) : En → R Bool := fun ρ => (f ρ).bind fun x => match x with
  | .bl b => .ok b
  | _ => .no
def dIf {α : Type} (c : En → R Bool) (fa fb : En → R α) : En → R α := fun ρ => (c ρ).bind fun b => if b = true then fa ρ else fb ρ
def dAnd (c d : En → R Bool) : En → R Bool := fun ρ => (c ρ).bind fun b => if b = true then d ρ else .ok false
def dOr (c d : En → R Bool) : En → R Bool := fun ρ => (c ρ).bind fun b => if b = true then .ok true else d ρ
def dNot (c : En → R Bool) : En → R Bool := fun ρ => (c ρ).bind fun b => .ok (!b)
def dAndV (c : En → R Bool) (d : En → R D) : En → R D := fun ρ => (c ρ).bind fun b => if b = true then d ρ else .ok (.bl false)
def dOrV (c : En → R Bool) (d : En → R D) : En → R D := fun ρ => (c ρ).bind fun b => if b = true then .ok (.bl true) else d ρ
def dOfB (c : En → R Bool) : En → R D := fun ρ => (c ρ).bind fun b => .ok (.bl b)
def dNil : En → R (List D) := fun _ => .ok []
def dCons (f : En → R D) (g : En → R (List D)) : En → R (List D) := fun ρ => (f ρ).bind fun x => (g ρ).bind fun xs => .ok (x :: xs)
def dCall {α : Type} (g : List D → R α) (fa : En → R (List D)) : En → R α := fun ρ => (fa ρ).bind g
def dCB (g : List D → Option D) (fa : En → R (List D)) : En → R D := fun ρ => (fa ρ).bind fun xs => ofO (g xs)
def dCBN (g : List D → Option (List D)) (fa : En → R (List D)) : En → R (List D) := fun ρ => (fa ρ).bind fun xs => ofO (g xs)

section
variable {X : Cx} {W : Ws} {e a b c : Expr} {es : List Expr} {t ta tb tc : TE} {tt uu : TT} {tA tr : TA} {f fa fb fc : En → R D} {pos : Pos}
/-! ### between the judgements -/
theorem epost_of_p {K : PySem.W.Frag} {σ : L2.St} {B H : Hp} {r : R D} {Q : VK} (h : PPost K W σ B H r Q) : EPost K W σ B H r Q := by
  cases r with
  | ok d => exact fun v B' H' u q => h v B' H' u (.of q)
  | er C => exact h
  | no => exact h
theorem vp_of (h : VE X W e t f) : VP X W e t f := ⟨h.pe, fun Fo B H ρ σ Q r q => h.ok Fo B H ρ σ Q r (epost_of_p q)⟩
theorem vn_ve {f : En → R (List D)} (h : VN X W e t f) : VE X W e t (dNew f) := ⟨h.pe, fun Fo B H ρ σ Q r q => h.ok Fo B H ρ σ Q r (by
  unfold dNew at q
  cases hf : f ρ with
  | ok xs =>
    rw [hf] at q
    intro p vs B' H' u nb nh hp hr
    refine q (.ref p) (upd B' p (.lst vs)) H' (u.share nh hp nb) (.lst upd_same (hr.up fun a o e => ?_))
    rw [upd_ne (ne_of_none e nb)]
    exact e
  | er C => rw [hf] at q; exact q
  | no => rw [hf] at q; exact q)⟩
theorem vw_pt {f : En → R Bool} (h : VW X W e tt f) : VT X W e tt f := ⟨h.pe.pt, h.ok⟩

/-- behind a first part that gives d, the wish at its end -/
theorem EPost.next {K : PySem.W.Frag} {σ : L2.St} {B H B1 H1 : Hp} {r : R D} {Q : VK} (u : Up B H B1 H1) (h : EPost K W σ B H r Q) : EPost K W σ B1 H1 r Q := by
  cases r with
  | ok d => exact fun v B' H' u' q => h v B' H' (u.trans u') q
  | er C => exact fun B' H' u' => h B' H' (u.trans u')
  | no => exact h
theorem PPost.next {K : PySem.W.Frag} {σ : L2.St} {B H B1 H1 : Hp} {r : R D} {Q : VK} (u : Up B H B1 H1) (h : PPost K W σ B H r Q) : PPost K W σ B1 H1 r Q := by
  cases r with
  | ok d => exact fun v B' H' u' q => h v B' H' (u.trans u') q
  | er C => exact fun B' H' u' => h B' H' (u.trans u')
  | no => exact h
theorem NPost.next {K : PySem.W.Frag} {σ : L2.St} {B H B1 H1 : Hp} {r : R (List D)} {Q : VK} (u : Up B H B1 H1) (h : NPost K W σ B H r Q) : NPost K W σ B1 H1 r Q := by
  cases r with
  | ok d => exact fun p vs B' H' u' n1 n2 q1 q => h p vs B' H' (u.trans u') n1 (u.h.free n2) q1 q
  | er C => exact fun B' H' u' => h B' H' (u.trans u')
  | no => exact h
theorem TPost.next {σ : L2.St} {B H B1 H1 : Hp} {r : R Bool} {Q : Bool → Hp → Prop} (u : Up B H B1 H1) (h : TPost W σ B H r Q) : TPost W σ B1 H1 r Q := by
  cases r with
  | ok d => exact fun B' H' u' => h B' H' (u.trans u')
  | er C => exact fun B' H' u' => h B' H' (u.trans u')
  | no => exact h
theorem APost.next {K : PySem.W.Frag} {σ : L2.St} {B H B1 H1 : Hp} {r : R (List D)} {Q : List V → Hp → Prop} (u : Up B H B1 H1) (h : APost K W σ B H r Q) : APost K W σ B1 H1 r Q := by
  cases r with
  | ok d => exact fun v B' H' u' q => h v B' H' (u.trans u') q
  | er C => exact fun B' H' u' => h B' H' (u.trans u')
  | no => exact h
theorem APostP.next {K : PySem.W.Frag} {σ : L2.St} {B H B1 H1 : Hp} {r : R (List D)} {Q : List V → Hp → Prop} (u : Up B H B1 H1) (h : APostP K W σ B H r Q) : APostP K W σ B1 H1 r Q := by
  cases r with
  | ok d => exact fun v B' H' u' q => h v B' H' (u.trans u') q
  | er C => exact fun B' H' u' => h B' H' (u.trans u')
  | no => exact h

/-! ### names, constants -/
theorem ve_var (i : Nat) {x : Str} {pos : Pos} (hN : X.N[i]? = some x := by rfl) (hv : Vis X.env.scope x := by first | exact Or.inl rfl | exact Or.inr (Or.inl rfl) | exact Or.inr (Or.inr rfl)) (hd : (x == ("__debug__" : Str)) = false := by decide)
    (hcd : (x == ("__classdict__" : Str)) = false := by decide) : VE X W (.Name x pos) (tVar i) (dVar i) := ⟨pe_var hN hv hd hcd, fun Fo B H ρ σ Q r q => by
  unfold dVar at q
  split at q
  · rename_i d h
    obtain ⟨v, h1, h2⟩ := r.vals i d h
    exact ⟨v, h1, q v B H r.same h2⟩
  · exact q.elim⟩
theorem vp_var (i : Nat) {x : Str} {pos : Pos} (hN : X.N[i]? = some x := by rfl) (hv : Vis X.env.scope x := by first | exact Or.inl rfl | exact Or.inr (Or.inl rfl) | exact Or.inr (Or.inr rfl)) (hd : (x == ("__debug__" : Str)) = false := by decide)
    (hcd : (x == ("__classdict__" : Str)) = false := by decide) : VP X W (.Name x pos) (tVar i) (dPeek i) := ⟨pe_var hN hv hd hcd, fun Fo B H ρ σ Q r q => by
  unfold dPeek at q
  split at q
  · rename_i d h
    obtain ⟨v, h1, h2⟩ := r.vals i d h
    exact ⟨v, h1, q v B H r.same (.of h2)⟩
  · rename_i ds h
    obtain ⟨p, vs, h1, h2, h3, _⟩ := r.owns i ds h
    exact ⟨_, h1, q _ B H r.same (.inr ⟨ds, p, vs, rfl, rfl, h2, h3⟩)⟩
  · exact q.elim⟩
theorem ve_c {v : V} {d : D} (h : PE X e (tC v)) (r : ∀ B, Rep X.K W.c B d v) : VE X W e (tC v) (dC d) := ⟨h, fun Fo B H ρ σ Q rs q => q v B H rs.same (r B)⟩
theorem ve_int {i j pos} : VE X W (.Constant (.int i) j pos) (tC (.int i)) (dC (.int i)) := ve_c pe_int fun _ => .int i
theorem ve_bl {i j pos} : VE X W (.Constant (.bool i) j pos) (tC (.bl i)) (dC (.bl i)) := ve_c pe_bl fun _ => .bl i
theorem ve_non {j pos} : VE X W (.Constant .none j pos) (tC .non) (dC .non) := ve_c pe_non fun _ => .non
theorem ve_str {i j pos} : VE X W (.Constant (.str i) j pos) (tC (.str i)) (dC (.str i)) := ve_c pe_str fun _ => .str i
/-- a module's constant: an int, a text, a class, a def -/
theorem ve_glob {x : Str} {v : V} {d : D} {u : Value} {pos : Pos} (hm : X.mg x = some u) (r : RelV v u) (hr : ∀ B, Rep X.K W.c B d v) (hg : Gl X x := by rfl) (hd : (x == ("__debug__" : Str)) = false := by decide) : VE X W (.Name x pos) (tC v) (dC d) :=
  ve_c (pe_glob hg hm r hd) hr

/-! ### operators on two values -/
/-- a reading on two values that gives g's value -/
def R2Ok (K : PySem.W.Frag) (c : Cs) (r : R2) (g : D → D → Option D) : Prop := ∀ B H x y v w Q d, Same B H → RepT K c B H x v → RepT K c B H y w → g x y = some d →
  (∀ z B' H', Up B H B' H' → Rep K c B' d z → Q z H') → r v w H Q
def R2N (K : PySem.W.Frag) (c : Cs) (r : R2) (g : D → D → Option (List D)) : Prop := ∀ B H x y v w Q d, Same B H → RepT K c B H x v → RepT K c B H y w → g x y = some d →
  (∀ p vs B' H', Up B H B' H' → B' p = none → H p = none → H' p = some (.lst vs) → RepL K c B' d vs → Q (.ref p) H') → r v w H Q
theorem tOp_ok {r : R2} {g : D → D → Option D} (hr : R2Ok X.K W.c r g) (ha : VP X W a ta fa) (hb : VP X W b tb fb) {Fo B H ρ σ Q} (rs : RS X.K W.c Fo B H ρ σ) (q : EPost X.K W σ B H (dBin g fa fb ρ) Q) : tOp r ta tb σ H Q := by
  unfold dBin at q
  refine ha.ok Fo B H ρ σ _ rs ?_
  cases h1 : fa ρ with
  | no => rw [h1] at q; exact q
  | er C => rw [h1] at q; exact q
  | ok x =>
    rw [h1, R.bind_ok] at q
    intro v B1 H1 u1 r1
    refine hb.ok Fo B1 H1 ρ σ _ (rs.up u1) ?_
    cases h2 : fb ρ with
    | no => rw [h2] at q; exact q
    | er C =>
      rw [h2] at q
      exact fun B' H' u => q B' H' (u1.trans u)
    | ok y =>
      rw [h2, R.bind_ok] at q
      intro w B2 H2 u2 r2
      cases h3 : g x y with
      | none => rw [h3] at q; exact q.elim
      | some d =>
        rw [h3] at q
        exact hr B2 H2 x y v w Q d u2.bh (r1.up u2) r2 h3 fun z B' H' u' hz => q z B' H' ((u1.trans u2).trans u') hz
theorem tOp_okN {r : R2} {g : D → D → Option (List D)} (hr : R2N X.K W.c r g) (ha : VP X W a ta fa) (hb : VP X W b tb fb) {Fo B H ρ σ Q} (rs : RS X.K W.c Fo B H ρ σ) (q : NPost X.K W σ B H (dBinN g fa fb ρ) Q) : tOp r ta tb σ H Q := by
  unfold dBinN at q
  refine ha.ok Fo B H ρ σ _ rs ?_
  cases h1 : fa ρ with
  | no => rw [h1] at q; exact q
  | er C => rw [h1] at q; exact q
  | ok x =>
    rw [h1, R.bind_ok] at q
    intro v B1 H1 u1 r1
    refine hb.ok Fo B1 H1 ρ σ _ (rs.up u1) ?_
    cases h2 : fb ρ with
    | no => rw [h2] at q; exact q
    | er C =>
      rw [h2] at q
      exact fun B' H' u => q B' H' (u1.trans u)
    | ok y =>
      rw [h2, R.bind_ok] at q
      intro w B2 H2 u2 r2
      cases h3 : g x y with
      | none => rw [h3] at q; exact q.elim
      | some d =>
        rw [h3] at q
        exact hr B2 H2 x y v w Q d u2.bh (r1.up u2) r2 h3 fun p vs B' H' u' n1 n2 q1 hz => q p vs B' H' ((u1.trans u2).trans u') n1 ((u1.trans u2).h.free n2) q1 hz
theorem ve_op {op : Operator} {r : R2} {g : D → D → Option D} (ho : OpR X (binaryOp op) r) (hr : R2Ok X.K W.c r g) (ha : VP X W a ta fa) (hb : VP X W b tb fb) : VE X W (.BinOp a op b pos) (tOp r ta tb) (dBin g fa fb) :=
  ⟨pe_op ho ha.pe hb.pe, fun _ _ _ _ _ _ rs q => tOp_ok hr ha hb rs q⟩
theorem vn_op {op : Operator} {r : R2} {g : D → D → Option (List D)} (ho : OpR X (binaryOp op) r) (hr : R2N X.K W.c r g) (ha : VP X W a ta fa) (hb : VP X W b tb fb) : VN X W (.BinOp a op b pos) (tOp r ta tb) (dBinN g fa fb) :=
  ⟨pe_op ho ha.pe hb.pe, fun _ _ _ _ _ _ rs q => tOp_okN hr ha hb rs q⟩
theorem ve_cmp {op : CmpOp} {r : R2} {g : D → D → Option D} (ho : OpR X (compareOp op) r) (hr : R2Ok X.K W.c r g) (ha : VP X W a ta fa) (hb : VP X W b tb fb) (hm : behindInMarks op b = false := by first | exact nomark _ (by decide) (by decide) | rfl | with_unfolding_all rfl) :
    VE X W (.Compare a [op] [b] pos) (tOp r ta tb) (dBin g fa fb) :=
  ⟨pe_cmpR ho ha.pe hb.pe hm, fun _ _ _ _ _ _ rs q => tOp_ok hr ha hb rs q⟩
theorem tOp_okT {r : R2} {g : D → D → Option D} (hr : R2Ok X.K W.c r g) (ha : VP X W a ta fa) (hb : VP X W b tb fb) {Fo B H ρ σ Q} (rs : RS X.K W.c Fo B H ρ σ) (q : TPost W σ B H (dBl (dBin g fa fb) ρ) Q) : tTest (tOp r ta tb) σ H Q := by
  unfold dBl at q
  refine tOp_ok hr ha hb rs ?_
  cases h : dBin g fa fb ρ with
  | no => rw [h] at q; exact q
  | er C => rw [h] at q; exact q
  | ok d =>
    rw [h, R.bind_ok] at q
    intro v B' H' u hv
    cases hv <;> first | exact q.elim | exact ⟨_, rfl, q B' H' u⟩
theorem vt_cmp {op : CmpOp} {r : R2} {g : D → D → Option D} (ho : OpR X (compareOp op) r) (hr : R2Ok X.K W.c r g) (ha : VP X W a ta fa) (hb : VP X W b tb fb) (hm : behindInMarks op b = false := by first | exact nomark _ (by decide) (by decide) | rfl | with_unfolding_all rfl) :
    VT X W (.Compare a [op] [b] pos) (tTest (tOp r ta tb)) (dBl (dBin g fa fb)) :=
  ⟨pt_cmpR ho ha.pe hb.pe hm, fun _ _ _ _ _ _ rs q => tOp_okT hr ha hb rs q⟩
/-- a subscript -/
theorem ve_ix {r : R2} {g : D → D → Option D} (ho : IxR X r) (hr : R2Ok X.K W.c r g) (ha : VP X W a ta fa) (hb : VP X W b tb fb) (hs : PlainIx b := by exact fun _ _ => rfl) : VE X W (.Subscript a b pos) (tOp r ta tb) (dBin g fa fb) :=
  ⟨pe_ix ho ha.pe hb.pe hs, fun _ _ _ _ _ _ rs q => tOp_ok hr ha hb rs q⟩

/-! ### operators on one value -/
def R1Ok (K : PySem.W.Frag) (c : Cs) (r : V → Hp → VK → Prop) (g : D → Option D) : Prop := ∀ B H x v Q d, Same B H → RepT K c B H x v → g x = some d → (∀ z B' H', Up B H B' H' → Rep K c B' d z → Q z H') → r v H Q
theorem ve_un {op : UnaryOp} {r : V → Hp → VK → Prop} {g : D → Option D} (ho : UnR X (unaryOp op) r) (hr : R1Ok X.K W.c r g) (ha : VP X W a ta fa) : VE X W (.UnaryOp op a pos) (tUn r ta) (dUn g fa) :=
  ⟨pe_un ho ha.pe, fun Fo B H ρ σ Q rs q => by
    unfold dUn at q
    refine ha.ok Fo B H ρ σ _ rs ?_
    cases h1 : fa ρ with
    | no => rw [h1] at q; exact q
    | er C => rw [h1] at q; exact q
    | ok x =>
      rw [h1, R.bind_ok] at q
      intro v B1 H1 u1 r1
      cases h3 : g x with
      | none => rw [h3] at q; exact q.elim
      | some d =>
        rw [h3] at q
        exact hr B1 H1 x v Q d u1.bh r1 h3 fun z B' H' u' hz => q z B' H' (u1.trans u') hz⟩

/-! ### tests -/
theorem tBl_ok {Fo B H ρ σ} {Q : Bool → Hp → Prop} (ha : VE X W a ta fa) (rs : RS X.K W.c Fo B H ρ σ) (q : TPost W σ B H (dBl fa ρ) Q) : ta σ H fun x H1 => ∃ c, x = .bl c ∧ Q c H1 := by
  unfold dBl at q
  refine ha.ok Fo B H ρ σ _ rs ?_
  cases h : fa ρ with
  | no => rw [h] at q; exact q
  | er C => rw [h] at q; exact q
  | ok d =>
    rw [h, R.bind_ok] at q
    intro v B' H' u hv
    cases hv <;> first | exact q.elim | exact ⟨_, rfl, q B' H' u⟩
theorem vt_val (ha : VE X W a ta fa) (he : ∀ whole, isTrue a X.env whole = (do let v ← whole; standAt a.pos; holding [v] (truthy v)) := by intro _; rfl) : VT X W a (tB ta) (dBl fa) :=
  ⟨pt_val ha.pe he, fun _ _ _ _ _ _ rs q => tBl_ok ha rs q⟩
def oTru : D → Option Bool
  | .non => some false
  | .bl b => some b
  | .int i => some (i != 0)
  | .str s => if s.length ≤ sizeLine then some ((s.length : Int) != 0) else none
  | .lst xs => some (!xs.isEmpty)
  | .ro xs => some (!xs.isEmpty)
  | .tup xs => some (!xs.isEmpty)
  | .ct xs => some (!xs.isEmpty)
  | _ => none
def dTru (f : En → R D) : En → R Bool := fun ρ => (f ρ).bind fun x => ofO (oTru x)
theorem emp_len {xs : List D} {vs : List V} {K : PySem.W.Frag} {c : Cs} {B : Hp} (h : RepL K c B xs vs) : (!xs.isEmpty) = !vs.isEmpty := by
  cases h <;> rfl
theorem vt_truth (ha : VP X W a ta fa) (he : ∀ whole, isTrue a X.env whole = (do let v ← whole; standAt a.pos; holding [v] (truthy v)) := by intro _; rfl) :
    VT X W a (fun σ H Q => ta σ H fun x H' => ∃ k, TruV X.K x H' k ∧ Q k H') (dTru fa) :=
  ⟨pt_truth ha.pe he, fun Fo B H ρ σ Q rs q => by
    unfold dTru at q
    refine ha.ok Fo B H ρ σ _ rs ?_
    cases h : fa ρ with
    | no => rw [h] at q; exact q
    | er C => rw [h] at q; exact q
    | ok d =>
      rw [h, R.bind_ok] at q
      intro v B' H' u hv
      rcases hv with hv | ⟨xs, p, vs, rfl, rfl, h2, h3⟩
      · cases hv with
        | non => exact ⟨_, rfl, q B' H' u⟩
        | bl b => exact ⟨_, rfl, q B' H' u⟩
        | int i => exact ⟨_, rfl, q B' H' u⟩
        | str s =>
          unfold oTru at q
          by_cases hl : s.length ≤ sizeLine
          · simp only [if_pos hl] at q
            exact ⟨_, ⟨hl, rfl⟩, q B' H' u⟩
          · simp only [if_neg hl] at q
            exact q.elim
        | ref a => exact q.elim
        | ty n => exact q.elim
        | lst h1 r1 => exact ⟨_, .inl ⟨_, SqL.of (u.bh _ _ h1), emp_len r1⟩, q B' H' u⟩
        | tup h1 r1 => exact ⟨_, .inr (.inl ⟨_, SqT.of (u.bh _ _ h1), emp_len r1⟩), q B' H' u⟩
        | ro h1 r1 => exact ⟨_, .inl ⟨_, u.bh.seq h1, emp_len r1⟩, q B' H' u⟩
        | ct h1 r1 =>
          refine ⟨_, .inr (.inl ⟨_, ?_, emp_len r1⟩), q B' H' u⟩
          rcases h1 with (h | ⟨o, h⟩) | h
          · exact .inl (.inl (u.bh _ _ h))
          · exact .inl (.inr ⟨o, u.bh _ _ h⟩)
          · exact .inr h
        | obj h1 r1 => exact q.elim
        | exc h1 => exact q.elim
        | cls n => exact q.elim
      · exact ⟨_, .inl ⟨_, SqL.of h2, emp_len h3⟩, q B' H' u⟩⟩
variable {g1 g2 : En → R Bool} {rest : List Expr}
theorem vw_and1 (ha : VT X W a tt g1) : VW X W (.BoolOp .And [a] pos) tt g1 := ⟨pw_and1 ha.pe, ha.ok⟩
theorem vw_or1 (ha : VT X W a tt g1) : VW X W (.BoolOp .Or [a] pos) tt g1 := ⟨pw_or1 ha.pe, ha.ok⟩
theorem tAnd_ok {Fo B H ρ σ} {Q : Bool → Hp → Prop} (h1 : ∀ Fo B H ρ σ Q, RS X.K W.c Fo B H ρ σ → TPost W σ B H (g1 ρ) Q → tt σ H Q) (h2 : ∀ Fo B H ρ σ Q, RS X.K W.c Fo B H ρ σ → TPost W σ B H (g2 ρ) Q → uu σ H Q)
    (rs : RS X.K W.c Fo B H ρ σ) (q : TPost W σ B H (dAnd g1 g2 ρ) Q) : tAnd tt uu σ H Q := by
  unfold dAnd at q
  refine h1 Fo B H ρ σ _ rs ?_
  cases h : g1 ρ with
  | no => rw [h] at q; exact q
  | er C => rw [h] at q; exact q
  | ok b =>
    rw [h, R.bind_ok] at q
    intro B' H' u
    cases b with
    | true => exact iteT (h2 Fo B' H' ρ σ Q (rs.up u) (TPost.next u q))
    | false => exact iteF (q B' H' u)
theorem tOr_ok {Fo B H ρ σ} {Q : Bool → Hp → Prop} (h1 : ∀ Fo B H ρ σ Q, RS X.K W.c Fo B H ρ σ → TPost W σ B H (g1 ρ) Q → tt σ H Q) (h2 : ∀ Fo B H ρ σ Q, RS X.K W.c Fo B H ρ σ → TPost W σ B H (g2 ρ) Q → uu σ H Q)
    (rs : RS X.K W.c Fo B H ρ σ) (q : TPost W σ B H (dOr g1 g2 ρ) Q) : tOr tt uu σ H Q := by
  unfold dOr at q
  refine h1 Fo B H ρ σ _ rs ?_
  cases h : g1 ρ with
  | no => rw [h] at q; exact q
  | er C => rw [h] at q; exact q
  | ok b =>
    rw [h, R.bind_ok] at q
    intro B' H' u
    cases b with
    | true => exact iteT (q B' H' u)
    | false => exact iteF (h2 Fo B' H' ρ σ Q (rs.up u) (TPost.next u q))
theorem vw_and (ha : VT X W a tt g1) (hb : VW X W (.BoolOp .And (b :: rest) pos) uu g2) : VW X W (.BoolOp .And (a :: b :: rest) pos) (tAnd tt uu) (dAnd g1 g2) := ⟨pw_and ha.pe hb.pe, fun _ _ _ _ _ _ rs q => tAnd_ok ha.ok hb.ok rs q⟩
theorem vw_or (ha : VT X W a tt g1) (hb : VW X W (.BoolOp .Or (b :: rest) pos) uu g2) : VW X W (.BoolOp .Or (a :: b :: rest) pos) (tOr tt uu) (dOr g1 g2) := ⟨pw_or ha.pe hb.pe, fun _ _ _ _ _ _ rs q => tOr_ok ha.ok hb.ok rs q⟩
theorem vt_not (ha : VT X W a tt g1) : VT X W (.UnaryOp .Not a pos) (tNot tt) (dNot g1) := ⟨pt_not ha.pe, fun Fo B H ρ σ Q rs q => by
  unfold dNot at q
  refine ha.ok Fo B H ρ σ _ rs ?_
  cases h : g1 ρ with
  | no => rw [h] at q; exact q
  | er C => rw [h] at q; exact q
  | ok b =>
    rw [h, R.bind_ok] at q
    exact fun B' H' u => q B' H' u⟩
/-! ### and, or, not as values -/
theorem ve_one {op} (ha : VE X W a ta fa) : VE X W (.BoolOp op [a] pos) ta fa := ⟨pe_one ha.pe, ha.ok⟩
theorem ve_and (ha : VE X W a ta fa) (hb : VE X W (.BoolOp .And (b :: rest) pos) tb fb) : VE X W (.BoolOp .And (a :: b :: rest) pos) (tAndV ta tb) (dAndV (dBl fa) fb) := ⟨pe_and ha.pe hb.pe, fun Fo B H ρ σ Q rs q => by
  unfold dAndV at q
  refine tBl_ok ha rs (Q := fun c H1 => if c = true then tb σ H1 Q else Q (.bl false) H1) ?_
  cases h : dBl fa ρ with
  | no => rw [h] at q; exact q
  | er C => rw [h] at q; exact q
  | ok b =>
    rw [h, R.bind_ok] at q
    intro B' H' u
    cases b with
    | true => exact iteT (hb.ok Fo B' H' ρ σ Q (rs.up u) (EPost.next u q))
    | false => exact iteF (q _ B' H' u (.bl false))⟩
theorem ve_or (ha : VE X W a ta fa) (hb : VE X W (.BoolOp .Or (b :: rest) pos) tb fb) : VE X W (.BoolOp .Or (a :: b :: rest) pos) (tOrV ta tb) (dOrV (dBl fa) fb) := ⟨pe_or ha.pe hb.pe, fun Fo B H ρ σ Q rs q => by
  unfold dOrV at q
  refine tBl_ok ha rs (Q := fun c H1 => if c = true then Q (.bl true) H1 else tb σ H1 Q) ?_
  cases h : dBl fa ρ with
  | no => rw [h] at q; exact q
  | er C => rw [h] at q; exact q
  | ok b =>
    rw [h, R.bind_ok] at q
    intro B' H' u
    cases b with
    | true => exact iteT (q _ B' H' u (.bl true))
    | false => exact iteF (hb.ok Fo B' H' ρ σ Q (rs.up u) (EPost.next u q))⟩
theorem ve_not (ha : VE X W a ta fa) : VE X W (.UnaryOp .Not a pos) (tNotV ta) (dOfB (dNot (dBl fa))) := ⟨pe_not ha.pe, fun Fo B H ρ σ Q rs q => by
  unfold dOfB dNot at q
  refine tBl_ok ha rs (Q := fun c H1 => Q (.bl (!c)) H1) ?_
  cases h : dBl fa ρ with
  | no => rw [h] at q; exact q
  | er C => rw [h] at q; exact q
  | ok b =>
    rw [h, R.bind_ok] at q
    exact fun B' H' u => q _ B' H' u (.bl _)⟩
/-! ### a if t else b -/
theorem ve_if (hc : VT X W c tt g1) (ha : VE X W a ta fa) (hb : VE X W b tb fb) : VE X W (.IfExp c a b pos) (tIf tt ta tb) (dIf g1 fa fb) := ⟨pe_ifExp hc.pe ha.pe hb.pe, fun Fo B H ρ σ Q rs q => by
  unfold dIf at q
  refine hc.ok Fo B H ρ σ _ rs ?_
  cases h : g1 ρ with
  | no => rw [h] at q; exact q
  | er C => rw [h] at q; exact q
  | ok b =>
    rw [h, R.bind_ok] at q
    intro B' H' u
    cases b with
    | true => exact iteT (ha.ok Fo B' H' ρ σ Q (rs.up u) (EPost.next u q))
    | false => exact iteF (hb.ok Fo B' H' ρ σ Q (rs.up u) (EPost.next u q))⟩
theorem vp_if (hc : VT X W c tt g1) (ha : VP X W a ta fa) (hb : VP X W b tb fb) : VP X W (.IfExp c a b pos) (tIf tt ta tb) (dIf g1 fa fb) := ⟨pe_ifExp hc.pe ha.pe hb.pe, fun Fo B H ρ σ Q rs q => by
  unfold dIf at q
  refine hc.ok Fo B H ρ σ _ rs ?_
  cases h : g1 ρ with
  | no => rw [h] at q; exact q
  | er C => rw [h] at q; exact q
  | ok b =>
    rw [h, R.bind_ok] at q
    intro B' H' u
    cases b with
    | true => exact iteT (ha.ok Fo B' H' ρ σ Q (rs.up u) (PPost.next u q))
    | false => exact iteF (hb.ok Fo B' H' ρ σ Q (rs.up u) (PPost.next u q))⟩
/-! ### argument lists -/
variable {h1 h2 : En → R (List D)}
theorem va_nil : VA X W [] tNil dNil := ⟨pa_nil, fun _ B H _ _ _ rs q => q [] B H rs.same .nil⟩
theorem va_cons (ha : VE X W e t f) (hr : VA X W es tr h1) (hs : starEach (e :: es) X.env = (false, eval e X.env) :: starEach es X.env := by rfl) : VA X W (e :: es) (tCons t tr) (dCons f h1) := ⟨pa_cons ha.pe hr.pe hs, fun Fo B H ρ σ Q rs q => by
  unfold dCons at q
  refine ha.ok Fo B H ρ σ _ rs ?_
  cases h : f ρ with
  | no => rw [h] at q; exact q
  | er C => rw [h] at q; exact q
  | ok x =>
    rw [h, R.bind_ok] at q
    intro v B1 H1 u1 r1
    refine hr.ok Fo B1 H1 ρ σ _ (rs.up u1) ?_
    cases h2 : h1 ρ with
    | no => rw [h2] at q; exact q
    | er C =>
      rw [h2] at q
      exact fun B' H' u => q B' H' (u1.trans u)
    | ok xs =>
      rw [h2, R.bind_ok] at q
      exact fun vs B' H' u r2 => q _ B' H' (u1.trans u) (.cons (r1.up u.b) r2)⟩
theorem vap_nil : VAP X W [] tNil dNil := ⟨pa_nil, fun _ B H _ _ _ rs q => q [] B H rs.same .nil⟩
theorem repTL_up {K : PySem.W.Frag} {c : Cs} {B H B' H' : Hp} (u : Up B H B' H') : ∀ {ds : List D} {vs : List V}, RepTL K c B H ds vs → RepTL K c B' H' ds vs
  | _, _, .nil => .nil
  | _, _, .cons a b => .cons (a.up u) (repTL_up u b)
theorem vap_cons (ha : VP X W e t f) (hr : VAP X W es tr h1) (hs : starEach (e :: es) X.env = (false, eval e X.env) :: starEach es X.env := by rfl) : VAP X W (e :: es) (tCons t tr) (dCons f h1) := ⟨pa_cons ha.pe hr.pe hs, fun Fo B H ρ σ Q rs q => by
  unfold dCons at q
  refine ha.ok Fo B H ρ σ _ rs ?_
  cases h : f ρ with
  | no => rw [h] at q; exact q
  | er C => rw [h] at q; exact q
  | ok x =>
    rw [h, R.bind_ok] at q
    intro v B1 H1 u1 r1
    refine hr.ok Fo B1 H1 ρ σ _ (rs.up u1) ?_
    cases h2 : h1 ρ with
    | no => rw [h2] at q; exact q
    | er C =>
      rw [h2] at q
      exact fun B' H' u => q B' H' (u1.trans u)
    | ok xs =>
      rw [h2, R.bind_ok] at q
      exact fun vs B' H' u r2 => q _ B' H' (u1.trans u) (.cons (r1.up u) r2)⟩
/-! ### displays -/
def dTup (h : En → R (List D)) : En → R D := fun ρ => (h ρ).bind fun xs => if xs.length ≤ sizeLine then .ok (.tup xs) else .no
def dLst (h : En → R (List D)) : En → R (List D) := fun ρ => (h ρ).bind fun xs => if xs.length ≤ sizeLine then .ok xs else .no
theorem ve_tup {x1} (ha : VA X W es tA h1) : VE X W (.Tuple es x1 pos) (tTup tA) (dTup h1) := ⟨pe_tup ha.pe, fun Fo B H ρ σ Q rs q => by
  unfold dTup at q
  refine ha.ok Fo B H ρ σ _ rs ?_
  cases h : h1 ρ with
  | no => rw [h] at q; exact q
  | er C => rw [h] at q; exact q
  | ok xs =>
    rw [h, R.bind_ok] at q
    intro vs B' H' u r
    by_cases hl : xs.length ≤ sizeLine
    · rw [if_pos hl] at q
      refine ⟨by rw [← r.length]; exact hl, fun p hp => ?_⟩
      refine q (.ref p) _ _ (u.trans (Up.new u.bh hp)) (.tup upd_same (r.up (Up.new (o := .tup vs) u.bh hp).b))
    · rw [if_neg hl] at q
      exact q.elim⟩
theorem vn_lst (ha : VA X W es tA h1) : VN X W (.List es pos) (tLst tA) (dLst h1) := ⟨pe_lst ha.pe, fun Fo B H ρ σ Q rs q => by
  unfold dLst at q
  refine ha.ok Fo B H ρ σ _ rs ?_
  cases h : h1 ρ with
  | no => rw [h] at q; exact q
  | er C => rw [h] at q; exact q
  | ok xs =>
    rw [h, R.bind_ok] at q
    intro vs B' H' u r
    by_cases hl : xs.length ≤ sizeLine
    · rw [if_pos hl] at q
      refine ⟨by rw [← r.length]; exact hl, fun p hp => ?_⟩
      exact q p vs B' _ (u.trans (Up.apart u.bh hp)) (u.bh.free hp) (u.h.free hp) upd_same r
    · rw [if_neg hl] at q
      exact q.elim⟩
/-! ### built-ins called -/
def CBOk (K : PySem.W.Frag) (c : Cs) (r : List V → Hp → VK → Prop) (g : List D → Option D) : Prop := ∀ B H xs vs Q d, Same B H → RepTL K c B H xs vs → g xs = some d → (∀ z B' H', Up B H B' H' → Rep K c B' d z → Q z H') → r vs H Q
def CBN (K : PySem.W.Frag) (c : Cs) (r : List V → Hp → VK → Prop) (g : List D → Option (List D)) : Prop := ∀ B H xs vs Q d, Same B H → RepTL K c B H xs vs → g xs = some d →
  (∀ p us B' H', Up B H B' H' → B' p = none → H p = none → H' p = some (.lst us) → RepL K c B' d us → Q (.ref p) H') → r vs H Q
theorem tCB_ok {r : List V → Hp → VK → Prop} {g : List D → Option D} (hr : CBOk X.K W.c r g) (ha : VAP X W es tA h1) {Fo B H ρ σ Q} (rs : RS X.K W.c Fo B H ρ σ) (q : EPost X.K W σ B H (dCB g h1 ρ) Q) : tCB r tA σ H Q := by
  unfold dCB at q
  refine ha.ok Fo B H ρ σ _ rs ?_
  cases h : h1 ρ with
  | no => rw [h] at q; exact q
  | er C => rw [h] at q; exact q
  | ok xs =>
    rw [h, R.bind_ok] at q
    intro vs B' H' u r
    cases h3 : g xs with
    | none => rw [h3] at q; exact q.elim
    | some d =>
      rw [h3] at q
      exact hr B' H' xs vs Q d u.bh r h3 fun z B2 H2 u' hz => q z B2 H2 (u.trans u') hz
theorem tCB_okN {r : List V → Hp → VK → Prop} {g : List D → Option (List D)} (hr : CBN X.K W.c r g) (ha : VAP X W es tA h1) {Fo B H ρ σ Q} (rs : RS X.K W.c Fo B H ρ σ) (q : NPost X.K W σ B H (dCBN g h1 ρ) Q) : tCB r tA σ H Q := by
  unfold dCBN at q
  refine ha.ok Fo B H ρ σ _ rs ?_
  cases h : h1 ρ with
  | no => rw [h] at q; exact q
  | er C => rw [h] at q; exact q
  | ok xs =>
    rw [h, R.bind_ok] at q
    intro vs B' H' u r
    cases h3 : g xs with
    | none => rw [h3] at q; exact q.elim
    | some d =>
      rw [h3] at q
      exact hr B' H' xs vs Q d u.bh r h3 fun p us B2 H2 u' n1 n2 h4 hz => q p us B2 H2 (u.trans u') n1 (u.h.free n2) h4 hz
variable {x : Str} {p : Pos} {id T : String} {r : List V → Hp → VK → Prop}
theorem ve_callB {g : List D → Option D} (hc : CallR X (.builtin id) r) (hr : CBOk X.K W.c r g) (hm : X.mg x = none) (hv : bootBuiltins x = some (.builtin id)) (ha : VAP X W (e :: es) tA h1) (hg : Gl X x := by rfl) (hn : x ≠ "__name__" := by decide) (hdb : (x == ("__debug__" : Str)) = false := by decide)
    (he : starEach (e :: es) X.env = (false, eval e X.env) :: starEach es X.env := by rfl) (hpl : (backTo pos (starEach es X.env)).any (·.1) = false := by rfl) : VE X W (.Call (.Name x p) (e :: es) [] pos) (tCB r tA) (dCB g h1) :=
  ⟨pe_callB hc hg hm hv ha.pe hn hdb he hpl, fun _ _ _ _ _ _ rs q => tCB_ok hr ha rs q⟩
theorem ve_callTy {g : List D → Option D} (hc : CallR X (.type T) r) (hr : CBOk X.K W.c r g) (hm : X.mg x = none) (hv : bootBuiltins x = some (.type T)) (ha : VAP X W (e :: es) tA h1) (hg : Gl X x := by rfl) (hn : x ≠ "__name__" := by decide) (hdb : (x == ("__debug__" : Str)) = false := by decide)
    (he : starEach (e :: es) X.env = (false, eval e X.env) :: starEach es X.env := by rfl) (hpl : (backTo pos (starEach es X.env)).any (·.1) = false := by rfl) : VE X W (.Call (.Name x p) (e :: es) [] pos) (tCB r tA) (dCB g h1) :=
  ⟨pe_callTy hc hg hm hv ha.pe hn hdb he hpl, fun _ _ _ _ _ _ rs q => tCB_ok hr ha rs q⟩
theorem vn_callTy {g : List D → Option (List D)} (hc : CallR X (.type T) r) (hr : CBN X.K W.c r g) (hm : X.mg x = none) (hv : bootBuiltins x = some (.type T)) (ha : VAP X W (e :: es) tA h1) (hg : Gl X x := by rfl) (hn : x ≠ "__name__" := by decide) (hdb : (x == ("__debug__" : Str)) = false := by decide)
    (he : starEach (e :: es) X.env = (false, eval e X.env) :: starEach es X.env := by rfl) (hpl : (backTo pos (starEach es X.env)).any (·.1) = false := by rfl) : VN X W (.Call (.Name x p) (e :: es) [] pos) (tCB r tA) (dCBN g h1) :=
  ⟨pe_callTy hc hg hm hv ha.pe hn hdb he hpl, fun _ _ _ _ _ _ rs q => tCB_okN hr ha rs q⟩

/-! ### defs -/
def RPost (K : PySem.W.Frag) (c : Cs) (B H : Hp) (r : R D) (Q : VK) (E : XK) : Prop := match r with
  | .ok d => ∀ v B' H', Up B H B' H' → Rep K c B' d v → Q v H'
  | .er C => ∀ B' H', Up B H B' H' → E (.ref (c.cl C)) none H'
  | .no => False
def RPostN (K : PySem.W.Frag) (c : Cs) (B H : Hp) (r : R (List D)) (Q : VK) (E : XK) : Prop := match r with
  | .ok ds => ∀ p vs B' H', Up B H B' H' → B' p = none → H p = none → H' p = some (.lst vs) → RepL K c B' ds vs → Q (.ref p) H'
  | .er C => ∀ B' H', Up B H B' H' → E (.ref (c.cl C)) none H'
  | .no => False
/-- a def that gives a value | a list of its own making -/
def spV (K : PySem.W.Frag) (c : Cs) (n : Nat) (g : List D → R D) : Sp := fun vs H Q E => ∃ B ds, Same B H ∧ RepL K c B ds vs ∧ ds.length = n ∧ RPost K c B H (g ds) Q E
def spN (K : PySem.W.Frag) (c : Cs) (n : Nat) (g : List D → R (List D)) : Sp := fun vs H Q E => ∃ B ds, Same B H ∧ RepL K c B ds vs ∧ ds.length = n ∧ RPostN K c B H (g ds) Q E
/-- a def of the text, called by its name -/
structure DefAt (P : Program) (w : World) (K : PySem.W.Frag) (mg : Str → Option Value) (base : Heap) (x : Str) (k n : Nat) (sp : Sp) : Prop where
  ex : ∃ fa fd ps, FnOk P w K mg base (L2.CX P w) k fa fd ps sp ∧ mg x = some (.ref fa) ∧ PySem.W.keepIn K (.ref fa) = true ∧ Binds K fd ps [] ∧ ps.length = n
variable {k n : Nat}
theorem tCallS_ok {g : List D → R D} (ha : VA X W es tA h1) (hl : ∀ ρ ds, h1 ρ = .ok ds → ds.length = n) {Fo B H ρ σ Q} (rs : RS X.K W.c Fo B H ρ σ) (q : EPost X.K W σ B H (dCall g h1 ρ) Q) : tCallS (spV X.K W.c n g) (WE W.W) tA σ H Q := by
  unfold dCall at q
  refine ha.ok Fo B H ρ σ _ rs ?_
  cases h : h1 ρ with
  | no => rw [h] at q; exact q
  | er C => rw [h] at q; exact q
  | ok xs =>
    rw [h, R.bind_ok] at q
    intro vs B' H' u r
    refine ⟨B', xs, u.bh, r, hl ρ xs h, ?_⟩
    cases h2 : g xs with
    | no => rw [h2] at q; exact q
    | er C => rw [h2] at q; exact fun B2 H2 u2 => q B2 H2 (u.trans u2)
    | ok d => rw [h2] at q; exact fun v B2 H2 u2 hv => q v B2 H2 (u.trans u2) hv
theorem tCallS_okN {g : List D → R (List D)} (ha : VA X W es tA h1) (hl : ∀ ρ ds, h1 ρ = .ok ds → ds.length = n) {Fo B H ρ σ Q} (rs : RS X.K W.c Fo B H ρ σ) (q : NPost X.K W σ B H (dCall g h1 ρ) Q) : tCallS (spN X.K W.c n g) (WE W.W) tA σ H Q := by
  unfold dCall at q
  refine ha.ok Fo B H ρ σ _ rs ?_
  cases h : h1 ρ with
  | no => rw [h] at q; exact q
  | er C => rw [h] at q; exact q
  | ok xs =>
    rw [h, R.bind_ok] at q
    intro vs B' H' u r
    refine ⟨B', xs, u.bh, r, hl ρ xs h, ?_⟩
    cases h2 : g xs with
    | no => rw [h2] at q; exact q
    | er C => rw [h2] at q; exact fun B2 H2 u2 => q B2 H2 (u.trans u2)
    | ok d => rw [h2] at q; exact fun p vs B2 H2 u2 n1 n2 h4 hv => q p vs B2 H2 (u.trans u2) n1 (u.h.free n2) h4 hv
theorem len_nil : ∀ ρ ds, dNil ρ = .ok ds → ds.length = 0 := fun ρ ds h => by
  cases h
  rfl
theorem len_cons {f : En → R D} {h : En → R (List D)} {n : Nat} (hl : ∀ ρ ds, h ρ = .ok ds → ds.length = n) : ∀ ρ ds, dCons f h ρ = .ok ds → ds.length = n + 1 := fun ρ ds q => by
  unfold dCons at q
  cases h1 : f ρ with
  | no => rw [h1] at q; cases q
  | er C => rw [h1] at q; cases q
  | ok x =>
    rw [h1, R.bind_ok] at q
    cases h2 : h ρ with
    | no => rw [h2] at q; cases q
    | er C => rw [h2] at q; cases q
    | ok xs =>
      rw [h2, R.bind_ok] at q
      cases q
      rw [List.length_cons, hl ρ xs h2]
theorem ve_call {g : List D → R D} (F : DefAt X.prog X.w X.K X.mg X.base x k n (spV X.K W.c n g)) (hr : Room k X.A) (tk : Takes X W.W) (ha : VA X W (e :: es) tA h1) (hl : ∀ ρ ds, h1 ρ = .ok ds → ds.length = n := by repeat (first | exact len_nil | refine len_cons ?_)) (hg : Gl X x := by rfl)
    (hdb : (x == ("__debug__" : Str)) = false := by decide) (he : starEach (e :: es) X.env = (false, eval e X.env) :: starEach es X.env := by rfl) (hpl : (backTo pos (starEach es X.env)).any (·.1) = false := by rfl) :
    VE X W (.Call (.Name x p) (e :: es) [] pos) (tCallS (spV X.K W.c n g) (WE W.W) tA) (dCall g h1) := ⟨by
      obtain ⟨fa, fd, ps, F, hm, hk, hb, _⟩ := F.ex
      exact pe_callS F hr hg hm hk hb (fun σ => passAt tk σ) ha.pe hdb he hpl, fun _ _ _ _ _ _ rs q => tCallS_ok ha hl rs q⟩
theorem vn_call {g : List D → R (List D)} (F : DefAt X.prog X.w X.K X.mg X.base x k n (spN X.K W.c n g)) (hr : Room k X.A) (tk : Takes X W.W) (ha : VA X W (e :: es) tA h1) (hl : ∀ ρ ds, h1 ρ = .ok ds → ds.length = n := by repeat (first | exact len_nil | refine len_cons ?_)) (hg : Gl X x := by rfl)
    (hdb : (x == ("__debug__" : Str)) = false := by decide) (he : starEach (e :: es) X.env = (false, eval e X.env) :: starEach es X.env := by rfl) (hpl : (backTo pos (starEach es X.env)).any (·.1) = false := by rfl) :
    VN X W (.Call (.Name x p) (e :: es) [] pos) (tCallS (spN X.K W.c n g) (WE W.W) tA) (dCall g h1) := ⟨by
      obtain ⟨fa, fd, ps, F, hm, hk, hb, _⟩ := F.ex
      exact pe_callS F hr hg hm hk hb (fun σ => passAt tk σ) ha.pe hdb he hpl, fun _ _ _ _ _ _ rs q => tCallS_okN ha hl rs q⟩
theorem pe_callS0 {ps : List Str} {sp : Sp} {E : L2.St → XK} {fa : Addr} {fd : FuncData} (F : FnOk X.prog X.w X.K X.mg X.base (L2.CX X.prog X.w) k fa fd ps sp) (hr : Room k X.A) (hg : Gl X x) (hm : X.mg x = some (.ref fa)) (hk : PySem.W.keepIn X.K (.ref fa) = true) (hb : Binds X.K fd ps []) (hx : ∀ σ, PassesAt (L2.CX X.prog X.w) X σ (E σ))
    (hdb : (x == ("__debug__" : Str)) = false := by decide) : PE X (.Call (.Name x p) [] [] pos) (tCallS sp E tNil) := by
  refine ⟨fun pins s σ H Q I h => ?_⟩
  refine wpAny_Call_Name_kw (ld_glob I hg hm ?_ hdb)
  exact PySem.W.callWith_K0 I.kIn hk (run_fnS (us := []) F hr hb (hx σ) I .nil h)
theorem ve_call0 {g : List D → R D} (F : DefAt X.prog X.w X.K X.mg X.base x k 0 (spV X.K W.c 0 g)) (hr : Room k X.A) (tk : Takes X W.W) (hg : Gl X x := by rfl) (hdb : (x == ("__debug__" : Str)) = false := by decide) :
    VE X W (.Call (.Name x p) [] [] pos) (tCallS (spV X.K W.c 0 g) (WE W.W) tNil) (dCall g dNil) := ⟨by
      obtain ⟨fa, fd, ps, F, hm, hk, hb, _⟩ := F.ex
      exact pe_callS0 F hr hg hm hk hb (fun σ => passAt tk σ) hdb, fun _ _ _ _ _ _ rs q => tCallS_ok va_nil len_nil rs q⟩
theorem vn_call0 {g : List D → R (List D)} (F : DefAt X.prog X.w X.K X.mg X.base x k 0 (spN X.K W.c 0 g)) (hr : Room k X.A) (tk : Takes X W.W) (hg : Gl X x := by rfl) (hdb : (x == ("__debug__" : Str)) = false := by decide) :
    VN X W (.Call (.Name x p) [] [] pos) (tCallS (spN X.K W.c 0 g) (WE W.W) tNil) (dCall g dNil) := ⟨by
      obtain ⟨fa, fd, ps, F, hm, hk, hb, _⟩ := F.ex
      exact pe_callS0 F hr hg hm hk hb (fun σ => passAt tk σ) hdb, fun _ _ _ _ _ _ rs q => tCallS_okN va_nil len_nil rs q⟩
end
end VL
set_option maxRecDepth 100000
set_option maxHeartbeats 4000000
namespace VL
open PySem PySem.Spec PyProof.Rows L2

inductive Out where
  | nx (ρ : En) | bk (ρ : En) | ct (ρ : En) | rt (d : D) | rn (ds : List D) | er (C : Nat) (ρ : En) | no

def SPost (K : PySem.W.Frag) (W : Ws) (Fo B : Hp) (o : Out) (D : Ends) : Prop := match o with
  | .nx ρ => ∀ B' H' σ', Same B B' → RS K W.c Fo B' H' ρ σ' → D.nx σ' H'
  | .bk ρ => ∀ B' H' σ', Same B B' → RS K W.c Fo B' H' ρ σ' → D.bk σ' H'
  | .ct ρ => ∀ B' H' σ', Same B B' → RS K W.c Fo B' H' ρ σ' → D.ct σ' H'
  | .rt d => ∀ B' H' v, Same B B' → Same B' H' → Same Fo H' → (∀ a, Fo a ≠ none → B' a = none) → Rep K W.c B' d v → D.rt v H'
  | .rn ds => ∀ B' H' p vs, Same B B' → Same B' H' → Same Fo H' → (∀ a, Fo a ≠ none → B' a = none) → B' p = none → Fo p = none → H' p = some (.lst vs) → RepL K W.c B' ds vs → D.rt (.ref p) H'
  | .er C ρ => ∀ B' H' σ', Same B B' → RS K W.c Fo B' H' ρ σ' → W.W (.ref (W.c.cl C)) none σ' H'
  | .no => False
theorem SPost.next {K : PySem.W.Frag} {W : Ws} {Fo B B1 : Hp} {o : Out} {D : Ends} (e : Same B B1) (h : SPost K W Fo B o D) : SPost K W Fo B1 o D := by
  cases o with
  | nx ρ => exact fun B' H' σ' s r => h B' H' σ' (e.trans s) r
  | bk ρ => exact fun B' H' σ' s r => h B' H' σ' (e.trans s) r
  | ct ρ => exact fun B' H' σ' s r => h B' H' σ' (e.trans s) r
  | rt d => exact fun B' H' v s => h B' H' v (e.trans s)
  | rn d => exact fun B' H' p vs s => h B' H' p vs (e.trans s)
  | er C ρ => exact fun B' H' σ' s r => h B' H' σ' (e.trans s) r
  | no => exact h

structure VS (X : Cx) (W : Ws) (st : Stmt) (t : TS) (g : En → Out) : Prop where
  ps : PS X st t
  ok : ∀ Fo B H ρ σ D, RS X.K W.c Fo B H ρ σ → SPost X.K W Fo B (g ρ) D → t D σ H
structure VSs (X : Cx) (W : Ws) (st : List Stmt) (t : TS) (g : En → Out) : Prop where
  ps : PSs X st t
  ok : ∀ Fo B H ρ σ D, RS X.K W.c Fo B H ρ σ → SPost X.K W Fo B (g ρ) D → t D σ H
/-- what stands around a body -/
structure Ctx (X : Cx) (W : Ws) : Prop where
  tk : Takes X W.W
  po : PassesOwn (model X.prog X.w) X.A X.env X.xe
  calm : X.calm = true
  hs : X.stack = X.env :: X.outer
  hf : X.env.frame = some X.env.locals
  nd : X.N.Nodup

/-! ### what statements do to environments -/
def gNext : En → Out := fun ρ => .nx ρ
def gSeq (f g : En → Out) : En → Out := fun ρ => match f ρ with
  | .nx ρ' => g ρ'
  | o => o
/-- a value, then what follows -/
def gLet {α : Type} (f : En → R α) (k : α → En → Out) : En → Out := fun ρ => match f ρ with
  | .ok d => k d ρ
  | .er C => .er C ρ
  | .no => .no
def gSet (i : Nat) (f : En → R D) : En → Out := gLet f fun d ρ => .nx (ρ.set i (.v d))
def gSetN (i : Nat) (f : En → R (List D)) : En → Out := gLet f fun d ρ => .nx (ρ.set i (.o d))
def gRet (f : En → R D) : En → Out := gLet f fun d _ => .rt d
def gRetN (f : En → R (List D)) : En → Out := gLet f fun d _ => .rn d
def gRetO (i : Nat) : En → Out := fun ρ => match ρ[i]? with
  | some (.o ds) => .rn ds
  | _ => .no
def gRet0 : En → Out := fun _ => .rt .non
def gDrop (f : En → R D) : En → Out := gLet f fun _ ρ => .nx ρ
def gIf (c : En → R Bool) (f g : En → Out) : En → Out := gLet c fun b ρ => if b = true then f ρ else g ρ
def gBreak : En → Out := fun ρ => .bk ρ
def gCont : En → Out := fun ρ => .ct ρ
def gFreeze (i : Nat) : En → Out := fun ρ => match ρ[i]? with
  | some (.o ds) => .nx (ρ.set i (.v (.lst ds)))
  | _ => .nx ρ
/-- an own list at i changed by a value -/
def gOwn {α : Type} (i : Nat) (u : List D → α → Option (List D)) (f : En → R α) : En → Out := fun ρ => match ρ[i]? with
  | some (.o ds) => gLet f (fun d ρ => match u ds d with
    | some es => .nx (ρ.set i (.o es))
    | none => .no) ρ
  | _ => .no
def uApp (ds : List D) (d : D) : Option (List D) := if ds.length < sizeLine then some (ds ++ [d]) else none
def uIns (ds : List D) (d : List D) : Option (List D) := match d with
  | [.int i, y] => if ds.length < sizeLine ∧ 0 ≤ i ∧ i < 2 ^ 63 then some (ds.take i.toNat ++ [y] ++ ds.drop i.toNat) else none
  | _ => none
/-- a list is handed: lists -/
def uExt (ds : List D) (d : D) : Option (List D) := match d with
  | .lst es => if ds.length + es.length ≤ sizeLine then some (ds ++ es) else none
  | _ => none
def uSet (ds : List D) (p : D × D) : Option (List D) := match p.2 with
  | .int i => (ixN ds.length i).map fun j => ds.set j p.1
  | _ => none
def dPair (f g : En → R D) : En → R (D × D) := fun ρ => (f ρ).bind fun x => (g ρ).bind fun y => .ok (x, y)

def forD (gf : D → En → Option En) (gb : En → Out) : List D → En → Out
  | [], ρ => .nx ρ
  | d :: ds, ρ => match gf d ρ with
    | none => .no
    | some ρ1 => match gb ρ1 with
      | .nx ρ2 => forD gf gb ds ρ2
      | .ct ρ2 => forD gf gb ds ρ2
      | .bk ρ2 => .nx ρ2
      | .rt d => .rt d
      | .rn d => .rn d
      | .er C ρ2 => .er C ρ2
      | .no => .no
def gFor (fi : En → R (List D)) (gf : D → En → Option En) (gb : En → Out) : En → Out := gLet fi fun ds ρ => forD gf gb ds ρ
def whileD (gt : En → R Bool) (gb : En → Out) : Nat → En → Out
  | 0, _ => .no
  | n + 1, ρ => match gt ρ with
    | .ok true => (match gb ρ with
      | .nx ρ2 => whileD gt gb n ρ2
      | .ct ρ2 => whileD gt gb n ρ2
      | .bk ρ2 => .nx ρ2
      | .rt d => .rt d
      | .rn d => .rn d
      | .er C ρ2 => .er C ρ2
      | .no => .no)
    | .ok false => .nx ρ
    | .er C => .er C ρ
    | .no => .no
def gWhile (n : Nat) (gt : En → R Bool) (gb : En → Out) : En → Out := fun ρ => whileD gt gb n ρ

section
variable {X : Cx} {W : Ws} {st : Stmt} {rest : List Stmt} {t u : TS} {g g' : En → Out} {e a b o : Expr} {te ta tb to : TE} {f fa fb : En → R D} {fn : En → R (List D)} {pos : Pos}
theorem vss_nil : VSs X W [] tNext gNext := ⟨pss_nil, fun Fo B H ρ σ D r q => q B H σ (Same.refl _) r⟩
theorem tSeq_ok (h1 : ∀ Fo B H ρ σ D, RS X.K W.c Fo B H ρ σ → SPost X.K W Fo B (g ρ) D → t D σ H) (h2 : ∀ Fo B H ρ σ D, RS X.K W.c Fo B H ρ σ → SPost X.K W Fo B (g' ρ) D → u D σ H) :
    ∀ Fo B H ρ σ D, RS X.K W.c Fo B H ρ σ → SPost X.K W Fo B (gSeq g g' ρ) D → tSeq t u D σ H := fun Fo B H ρ σ D r q => by
  unfold gSeq at q
  refine h1 Fo B H ρ σ _ r ?_
  cases h : g ρ with
  | nx ρ' => rw [h] at q; exact fun B' H' σ' s r' => h2 Fo B' H' ρ' σ' D r' (SPost.next s q)
  | bk ρ' => rw [h] at q; exact q
  | ct ρ' => rw [h] at q; exact q
  | rt d => rw [h] at q; exact q
  | rn d => rw [h] at q; exact q
  | er C ρ' => rw [h] at q; exact q
  | no => rw [h] at q; exact q
theorem vss_cons (h1 : VS X W st t g) (h2 : VSs X W rest u g') : VSs X W (st :: rest) (tSeq t u) (gSeq g g') := ⟨pss_cons h1.ps h2.ps, tSeq_ok h1.ok h2.ok⟩
theorem vss_one (h1 : VS X W st t g) : VSs X W [st] t g := ⟨pss_one h1.ps, h1.ok⟩
/-- from a value to what follows -/
theorem gLet_okE {k : D → En → Out} {Q : VK} {Fo B H ρ σ D} (ha : VE X W e te f) (r : RS X.K W.c Fo B H ρ σ) (q : SPost X.K W Fo B (gLet f k ρ) D)
    (hk : ∀ d v B' H', Same B B' → RS X.K W.c Fo B' H' ρ σ → Rep X.K W.c B' d v → SPost X.K W Fo B' (k d ρ) D → Q v H') : te σ H Q := by
  unfold gLet at q
  refine ha.ok Fo B H ρ σ _ r ?_
  cases h : f ρ with
  | no => rw [h] at q; exact q
  | er C => rw [h] at q; exact fun B' H' u => q B' H' σ u.b (r.up u)
  | ok d => rw [h] at q; exact fun v B' H' u hv => hk d v B' H' u.b (r.up u) hv (SPost.next u.b q)
theorem gLet_okN {k : List D → En → Out} {Q : VK} {Fo B H ρ σ D} (ha : VN X W e te fn) (r : RS X.K W.c Fo B H ρ σ) (q : SPost X.K W Fo B (gLet fn k ρ) D)
    (hk : ∀ d p vs B' H', Same B B' → RS X.K W.c Fo B' H' ρ σ → B' p = none → H p = none → H' p = some (.lst vs) → RepL X.K W.c B' d vs → SPost X.K W Fo B' (k d ρ) D → Q (.ref p) H') : te σ H Q := by
  unfold gLet at q
  refine ha.ok Fo B H ρ σ _ r ?_
  cases h : fn ρ with
  | no => rw [h] at q; exact q
  | er C => rw [h] at q; exact fun B' H' u => q B' H' σ u.b (r.up u)
  | ok d => rw [h] at q; exact fun p vs B' H' u n1 n2 hp hv => hk d p vs B' H' u.b (r.up u) n1 n2 hp hv (SPost.next u.b q)
theorem gLet_okT {k : Bool → En → Out} {tt : TT} {c : Expr} {gc : En → R Bool} {Q : Bool → Hp → Prop} {Fo B H ρ σ D} (ha : VT X W c tt gc) (r : RS X.K W.c Fo B H ρ σ) (q : SPost X.K W Fo B (gLet gc k ρ) D)
    (hk : ∀ b B' H', Same B B' → RS X.K W.c Fo B' H' ρ σ → SPost X.K W Fo B' (k b ρ) D → Q b H') : tt σ H Q := by
  unfold gLet at q
  refine ha.ok Fo B H ρ σ _ r ?_
  cases h : gc ρ with
  | no => rw [h] at q; exact q
  | er C => rw [h] at q; exact fun B' H' u => q B' H' σ u.b (r.up u)
  | ok d => rw [h] at q; exact fun B' H' u => hk d B' H' u.b (r.up u) (SPost.next u.b q)
theorem gLet_okA {k : List D → En → Out} {tA : TA} {es : List Expr} {Q : List V → Hp → Prop} {Fo B H ρ σ D} (ha : VA X W es tA fn) (r : RS X.K W.c Fo B H ρ σ) (q : SPost X.K W Fo B (gLet fn k ρ) D)
    (hk : ∀ d vs B' H', Same B B' → RS X.K W.c Fo B' H' ρ σ → RepL X.K W.c B' d vs → SPost X.K W Fo B' (k d ρ) D → Q vs H') : tA σ H Q := by
  unfold gLet at q
  refine ha.ok Fo B H ρ σ _ r ?_
  cases h : fn ρ with
  | no => rw [h] at q; exact q
  | er C => rw [h] at q; exact fun B' H' u => q B' H' σ u.b (r.up u)
  | ok d => rw [h] at q; exact fun vs B' H' u hv => hk d vs B' H' u.b (r.up u) hv (SPost.next u.b q)

/-! ### names stored -/
theorem vs_set (i : Nat) {x : Str} {pos' : Pos} (hN : X.N.Nodup) (he : VE X W e te f) (hi : X.N[i]? = some x := by rfl) (hx : Loc X.env.scope x := by first | exact .inl rfl | exact .inr rfl) (hs : swapsWith e (some (.Name x pos')) pos.line X.env = pure false := by rfl)
    (hf : X.fn x = true ∨ X.env.scope.names.lookup x = some .local := by first | exact .inl rfl | exact .inr rfl) : VS X W (.Assign [.Name x pos'] e pos) (tAsg te (gName i)) (gSet i f) :=
  ⟨ps_set hN hi hx he.pe hs hf, fun Fo B H ρ σ D r q => gLet_okE he r q fun d v B' H' s r' hv q' => q' B' H' _ (Same.refl _) (r'.setV i hv)⟩
theorem new_own {K : PySem.W.Frag} {c : Cs} {Fo B H : Hp} {ρ : En} {σ : L2.St} (r : RS K c Fo B H ρ σ) {p : Addr} (h : H p = none) : ∀ (j : Nat) xs, ρ[j]? = some (.o xs) → σ[j]? ≠ some (some (.ref p)) := fun j xs q e => by
  obtain ⟨p', vs, h1, h2, _⟩ := r.owns j xs q
  rw [e] at h1
  cases h1
  rw [h] at h2
  cases h2
theorem vs_setN (i : Nat) {x : Str} {pos' : Pos} (hN : X.N.Nodup) (he : VN X W e te fn) (hi : X.N[i]? = some x := by rfl) (hx : Loc X.env.scope x := by first | exact .inl rfl | exact .inr rfl) (hs : swapsWith e (some (.Name x pos')) pos.line X.env = pure false := by rfl)
    (hf : X.fn x = true ∨ X.env.scope.names.lookup x = some .local := by first | exact .inl rfl | exact .inr rfl) : VS X W (.Assign [.Name x pos'] e pos) (tAsg te (gName i)) (gSetN i fn) :=
  ⟨ps_set hN hi hx he.pe hs hf, fun Fo B H ρ σ D r q => gLet_okN he r q fun d p vs B' H' s r' n1 n2 hp hv q' => q' B' H' _ (Same.refl _) (r'.setO i hp hv n1 (r.fh.free n2) fun j xs _ e1 => new_own r n2 j xs e1)⟩
theorem vs_aug (i : Nat) {x : Str} {op : Operator} {ti : TIp} {gi : D → D → Option D} {pos' : Pos} (hN : X.N.Nodup) (he : VE X W e te f) (ho : PIp X op ti) (hr : R2Ok X.K W.c ti gi) (hi : X.N[i]? = some x := by rfl) (hx : Loc X.env.scope x := by first | exact .inl rfl | exact .inr rfl)
    (hf : X.fn x = true ∨ X.env.scope.names.lookup x = some .local := by first | exact .inl rfl | exact .inr rfl) : VS X W (.AugAssign (.Name x pos') op e pos) (tAug i te ti) (gSet i (dBin gi (dVar i) f)) :=
  ⟨ps_aug hN hi hx he.pe ho hf, fun Fo B H ρ σ D r q => by
    unfold gSet gLet dBin dVar at q
    cases h : ρ[i]? with
    | none => rw [h] at q; exact q.elim
    | some s =>
      rw [h] at q
      cases s with
      | un => exact q.elim
      | b C fs => exact q.elim
      | o ds => exact q.elim
      | v d0 =>
        obtain ⟨v, h1, h2⟩ := r.vals i d0 h
        refine ⟨v, h1, ?_⟩
        refine he.ok Fo B H ρ σ _ r ?_
        dsimp only [R.bind_ok] at q
        cases h3 : f ρ with
        | no => rw [h3] at q; exact q
        | er C => rw [h3] at q; exact fun B' H' u => q B' H' σ u.b (r.up u)
        | ok d1 =>
          rw [h3, R.bind_ok] at q
          intro w B' H' u' hw
          cases h4 : gi d0 d1 with
          | none => rw [h4] at q; exact q.elim
          | some d =>
            rw [h4] at q
            exact hr B' H' d0 d1 v w _ d u'.bh (.of (h2.up u'.b)) (.of hw) h4 fun z B2 H2 u2 hz => q B2 H2 _ (u'.b.trans u2.b) (((r.up u').up u2).setV i hz)⟩

/-! ### small statements -/
theorem vs_ret (he : VE X W e te f) : VS X W (.Return (some e) pos) (tRet te) (gRet f) :=
  ⟨ps_ret he.pe, fun Fo B H ρ σ D r q => gLet_okE (Q := D.rt) he r q fun d v B' H' s r' hv q' => q' B' H' v (Same.refl _) r'.bh r'.fh r'.fb hv⟩
theorem vs_retN (he : VN X W e te fn) : VS X W (.Return (some e) pos) (tRet te) (gRetN fn) :=
  ⟨ps_ret he.pe, fun Fo B H ρ σ D r q => gLet_okN (Q := D.rt) he r q fun d p vs B' H' s r' n1 n2 hp hv q' => q' B' H' p vs (Same.refl _) r'.bh r'.fh r'.fb n1 (r.fh.free n2) hp hv⟩
theorem vs_retO (i : Nat) {x : Str} {pos' : Pos} (hN : X.N[i]? = some x := by rfl) (hv : Vis X.env.scope x := by first | exact Or.inl rfl | exact Or.inr (Or.inl rfl) | exact Or.inr (Or.inr rfl)) (hd : (x == ("__debug__" : Str)) = false := by decide)
    (hcd : (x == ("__classdict__" : Str)) = false := by decide) : VS X W (.Return (some (.Name x pos')) pos) (tRet (tVar i)) (gRetO i) :=
  ⟨ps_ret (pe_var hN hv hd hcd), fun Fo B H ρ σ D r q => by
    unfold gRetO at q
    cases h : ρ[i]? with
    | none => rw [h] at q; exact q.elim
    | some s =>
      rw [h] at q
      cases s with
      | un => exact q.elim
      | b C fs => exact q.elim
      | v d => exact q.elim
      | o ds =>
        obtain ⟨p, vs, h1, h2, h3, h4, h5⟩ := r.owns i ds h
        exact ⟨_, h1, q B H p vs (Same.refl _) r.bh r.fh r.fb h4 h5 h2 h3⟩⟩
theorem vs_ret0 : VS X W (.Return none pos) tRetN gRet0 := ⟨ps_retN, fun Fo B H ρ σ D r q => q B H .non (Same.refl _) r.bh r.fh r.fb .non⟩
theorem vs_expr (he : VE X W e te f) (hs : swapsWith e none pos.line X.env = pure false := by rfl) : VS X W (.Expr e pos) (tDrop te) (gDrop f) :=
  ⟨ps_expr he.pe hs, fun Fo B H ρ σ D r q => gLet_okE he r q fun d v B' H' s r' hv q' => q' B' H' σ (Same.refl _) r'⟩
theorem vs_doc {x j pos pos'} : VS X W (.Expr (.Constant (.str x) j pos) pos') tNext gNext := ⟨ps_doc, fun Fo B H ρ σ D r q => q B H σ (Same.refl _) r⟩
theorem vs_pass : VS X W (.Pass pos) tNext gNext := ⟨ps_pass, fun Fo B H ρ σ D r q => q B H σ (Same.refl _) r⟩
theorem vs_break : VS X W (.Break pos) tBreak gBreak := ⟨ps_break, fun Fo B H ρ σ D r q => q B H σ (Same.refl _) r⟩
theorem vs_cont : VS X W (.Continue pos) tCont gCont := ⟨ps_continue, fun Fo B H ρ σ D r q => q B H σ (Same.refl _) r⟩
theorem vs_if {c : Expr} {as bs : List Stmt} {tc : TT} {gc : En → R Bool} (hc : VT X W c tc gc) (ha : VSs X W as t g) (hb : VSs X W bs u g') : VS X W (.If c as bs pos) (tIfS tc t u) (gIf gc g g') :=
  ⟨ps_if hc.pe ha.ps hb.ps, fun Fo B H ρ σ D r q => gLet_okT hc r q fun b B' H' s r' q' => by
    cases b with
    | true => exact iteT (ha.ok Fo B' H' ρ σ D r' q')
    | false => exact iteF (hb.ok Fo B' H' ρ σ D r' q')⟩
/-- an own list is shared from here on -/
theorem vs_freeze (i : Nat) (h : VSs X W rest t g) : VSs X W rest t (gSeq (gFreeze i) g) := ⟨h.ps, fun Fo B H ρ σ D r q => by
  unfold gSeq gFreeze at q
  cases hi : ρ[i]? with
  | none => rw [hi] at q; exact h.ok Fo B H ρ σ D r q
  | some s =>
    rw [hi] at q
    cases s with
    | un => exact h.ok Fo B H ρ σ D r q
    | b C fs => exact h.ok Fo B H ρ σ D r q
    | v d => exact h.ok Fo B H ρ σ D r q
    | o ds =>
      obtain ⟨B', sb, r'⟩ := r.freeze hi
      exact h.ok Fo B' H _ σ D r' (SPost.next sb q)⟩

/-! ### an own list changed -/
theorem gOwn_ok {α : Type} {i : Nat} {u : List D → α → Option (List D)} {fu : En → R α} {t : TS} {Fo B H ρ σ D} (r : RS X.K W.c Fo B H ρ σ) (q : SPost X.K W Fo B (gOwn i u fu ρ) D)
    (h : ∀ ds p vs, ρ[i]? = some (.o ds) → σ[i]? = some (some (.ref p)) → H p = some (.lst vs) → RepL X.K W.c B ds vs → SPost X.K W Fo B (gLet fu (fun d ρ => match u ds d with
      | some es => .nx (ρ.set i (.o es))
      | none => .no) ρ) D → t D σ H) : t D σ H := by
  unfold gOwn at q
  cases hi : ρ[i]? with
  | none => rw [hi] at q; exact q.elim
  | some s =>
    rw [hi] at q
    cases s with
    | un => exact q.elim
    | b C fs => exact q.elim
    | v d => exact q.elim
    | o ds =>
      obtain ⟨p, vs, h1, h2, h3, h4, h5⟩ := r.owns i ds hi
      exact h ds p vs hi h1 h2 h3 q
/-- behind the arguments: the list as it stands -/
theorem own_again {K : PySem.W.Frag} {c : Cs} {Fo B H : Hp} {ρ : En} {σ : L2.St} {i : Nat} {ds : List D} {p : Addr} (r : RS K c Fo B H ρ σ) (hi : ρ[i]? = some (.o ds)) (hs : σ[i]? = some (some (.ref p))) : ∃ vs, H p = some (.lst vs) ∧ RepL K c B ds vs := by
  obtain ⟨p', vs, h1, h2, h3, _⟩ := r.owns i ds hi
  rw [hs] at h1
  cases h1
  exact ⟨vs, h2, h3⟩
theorem vs_append (i : Nat) {x : Str} {apos cpos xpos : Pos} (he : VE X W e te f) (hN : X.N[i]? = some x := by rfl) (hv : Vis X.env.scope x := by first | exact Or.inl rfl | exact Or.inr (Or.inl rfl) | exact Or.inr (Or.inr rfl)) (hd : (x == ("__debug__" : Str)) = false := by decide)
    (hcd : (x == ("__classdict__" : Str)) = false := by decide) (hs : swapsWith (.Call (.Attribute (.Name x xpos) "append" apos) [e] [] cpos) none pos.line X.env = pure false := by rfl)
    (hbase : attributeBase (.Name x xpos) "append" X.env (eval (.Name x xpos) X.env) = eval (.Name x xpos) X.env := by rfl)
    (hfew : ((backTo cpos (starEach (e :: []) X.env)).all (fun x => !x.1) && (backToKw cpos (keywordEach [] X.env)).all (fun x => x.1.isSome)
      && decide ((e :: []).length + ([] : List Keyword).length + (if ([] : List Keyword).isEmpty then 0 else 1) < 30)) = true := by rfl)
    (hline : (apos.endLine == cpos.line) = true := by rfl) (hst : starEach (e :: []) X.env = (false, eval e X.env) :: starEach [] X.env := by rfl) (hplain : (backTo cpos (starEach [] X.env)).any (·.1) = false := by rfl) :
    VS X W (.Expr (.Call (.Attribute (.Name x xpos) "append" apos) [e] [] cpos) pos) (tDrop (tBM X.K "list" rAppend (tVar i) (tCons te tNil))) (gOwn i uApp f) :=
  ⟨ps_expr (pe_bm PySem.F.plainAttrs_list PySem.F.slot_list_append PySem.F.type_list_append mt_append (pe_var hN hv hd hcd) (pa_cons he.pe pa_nil hst) hbase hfew hline hst hplain) hs, fun Fo B H ρ σ D r q =>
    gOwn_ok (t := tDrop (tBM X.K "list" rAppend (tVar i) (tCons te tNil))) r q fun ds p vs hρ hσ hH hr q => by
      refine ⟨_, hσ, .inl ⟨rfl, _, SqL.of hH⟩, ?_⟩
      refine gLet_okE he r q fun d w B' H' s r' hw q' => ?_
      obtain ⟨vs2, h2, h3⟩ := own_again r' hρ hσ
      unfold uApp at q'
      by_cases hl : ds.length < sizeLine
      · rw [if_pos hl] at q'
        exact ⟨p, vs2, w, rfl, rfl, h2, by rw [← h3.length]; exact hl, q' B' _ σ (Same.refl _) (r'.write hρ hσ (h3.append (.cons hw .nil)))⟩
      · rw [if_neg hl] at q'
        exact q'.elim⟩
theorem vs_insert (i : Nat) {x : Str} {apos cpos xpos : Pos} {e2 : Expr} {tA : TA} (he : VA X W [e, e2] tA fn) (hN : X.N[i]? = some x := by rfl) (hv : Vis X.env.scope x := by first | exact Or.inl rfl | exact Or.inr (Or.inl rfl) | exact Or.inr (Or.inr rfl)) (hd : (x == ("__debug__" : Str)) = false := by decide)
    (hcd : (x == ("__classdict__" : Str)) = false := by decide) (hs : swapsWith (.Call (.Attribute (.Name x xpos) "insert" apos) [e, e2] [] cpos) none pos.line X.env = pure false := by rfl)
    (hbase : attributeBase (.Name x xpos) "insert" X.env (eval (.Name x xpos) X.env) = eval (.Name x xpos) X.env := by rfl)
    (hfew : ((backTo cpos (starEach (e :: [e2]) X.env)).all (fun x => !x.1) && (backToKw cpos (keywordEach [] X.env)).all (fun x => x.1.isSome)
      && decide ((e :: [e2]).length + ([] : List Keyword).length + (if ([] : List Keyword).isEmpty then 0 else 1) < 30)) = true := by rfl)
    (hline : (apos.endLine == cpos.line) = true := by rfl) (hst : starEach (e :: [e2]) X.env = (false, eval e X.env) :: starEach [e2] X.env := by rfl) (hplain : (backTo cpos (starEach [e2] X.env)).any (·.1) = false := by rfl) :
    VS X W (.Expr (.Call (.Attribute (.Name x xpos) "insert" apos) [e, e2] [] cpos) pos) (tDrop (tBM X.K "list" (fun x vs H Q => ∃ (l : Addr) (xs : List V) (i : Int) (y : V), x = .ref l ∧ vs = [.int i, y] ∧ H l = some (.lst xs) ∧ xs.length < sizeLine ∧ 0 ≤ i ∧ i < 2 ^ 63 ∧
      Q .non (upd H l (.lst (xs.take i.toNat ++ [y] ++ xs.drop i.toNat)))) (tVar i) tA)) (gOwn i uIns fn) :=
  ⟨ps_expr (pe_bm PySem.F.plainAttrs_list PySem.F.slot_list_insert PySem.F.type_list_insert mt_insert (pe_var hN hv hd hcd) he.pe hbase hfew hline hst hplain) hs, fun Fo B H ρ σ D r q =>
    gOwn_ok (t := tDrop (tBM X.K "list" _ (tVar i) tA)) r q fun ds p vs hρ hσ hH hr q => by
      refine ⟨_, hσ, .inl ⟨rfl, _, SqL.of hH⟩, ?_⟩
      refine gLet_okA he r q fun d ws B' H' s r' hw q' => ?_
      obtain ⟨vs2, h2, h3⟩ := own_again r' hρ hσ
      cases hw with
      | nil => exact q'.elim
      | cons r1 w1 =>
        cases w1 with
        | nil => cases r1 <;> exact q'.elim
        | cons r2 w2 =>
          cases w2 with
          | cons _ _ => cases r1 <;> exact q'.elim
          | nil =>
            cases r1 with
            | int j =>
              unfold uIns at q'
              dsimp only at q'
              by_cases hl : ds.length < sizeLine ∧ 0 ≤ j ∧ j < 2 ^ 63
              · rw [if_pos hl] at q'
                exact ⟨p, vs2, j, _, rfl, rfl, h2, by rw [← h3.length]; exact hl.1, hl.2.1, hl.2.2, q' B' _ σ (Same.refl _) (r'.write hρ hσ (((h3.take _).append (.cons r2 .nil)).append (h3.drop _)))⟩
              · rw [if_neg hl] at q'
                exact q'.elim
            | _ => exact q'.elim⟩
/-- x[i] = e, x an own list -/
def gSetIx (i : Nat) (fe fi : En → R D) : En → Out := gLet fe fun d ρ => gOwn i (fun ds k => uSet ds (d, k)) fi ρ
theorem vs_setix (i : Nat) {x : Str} {ix : Expr} {ti : TE} {fi : En → R D} {tpos xpos : Pos} (he : VE X W e te f) (hix : VE X W ix ti fi) (hN : X.N[i]? = some x := by rfl) (hv : Vis X.env.scope x := by first | exact Or.inl rfl | exact Or.inr (Or.inl rfl) | exact Or.inr (Or.inr rfl))
    (hd : (x == ("__debug__" : Str)) = false := by decide) (hcd : (x == ("__classdict__" : Str)) = false := by decide)
    (hg : PE X (.Name x xpos) (tVar i) → PE X ix ti → PG X (.Subscript (.Name x xpos) ix tpos) (gSub (tVar i) ti rSetL) := by exact fun h1 h2 => pg_sub h1 h2 set_list)
    (hs : swapsWithSole [.Subscript (.Name x xpos) ix tpos] e pos.line X.env = pure false := by rfl) (hw : swappedStores [.Subscript (.Name x xpos) ix tpos] e X.env = pure none := by rfl)
    (h1 : (assignEach [.Subscript (.Name x xpos) ix tpos] X.env).map (·.2) = [assign (.Subscript (.Name x xpos) ix tpos) X.env] := by rfl) :
    VS X W (.Assign [.Subscript (.Name x xpos) ix tpos] e pos) (tAsg te (gSub (tVar i) ti rSetL)) (gSetIx i f fi) :=
  ⟨ps_asg he.pe (hg (pe_var hN hv hd hcd) hix.pe) hs hw h1, fun Fo B H ρ σ D r q => by
    unfold gSetIx at q
    refine gLet_okE he r q fun d v B1 H1 s1 r1 hv1 q1 => ?_
    refine gOwn_ok (t := fun D σ H => gSub (tVar i) ti rSetL v σ H D.nx) r1 q1 fun ds p vs hρ hσ hH hr q => ?_
    refine ⟨_, hσ, ?_⟩
    refine gLet_okE hix r1 q fun k w B2 H2 s2 r2 hv2 q2 => ?_
    obtain ⟨vs2, a1, a2⟩ := own_again r2 hρ hσ
    unfold uSet at q2
    cases hv2 with
    | int k =>
      dsimp only at q2
      cases h4 : ixN ds.length k with
      | none => rw [h4] at q2; exact q2.elim
      | some j =>
        rw [h4] at q2
        exact ⟨p, vs2, k, j, rfl, rfl, a1, by rw [← a2.length]; exact h4, q2 B2 _ σ (Same.refl _) (r2.write hρ hσ (RepL.set (hv1.up s2) j a2))⟩
    | _ => exact q2.elim⟩
end
end VL
set_option maxRecDepth 100000
set_option maxHeartbeats 4000000
namespace VL
open PySem PySem.Spec PyProof.Rows L2

/-! ### targets -/
theorem wipe_eq {σ σ' : L2.St} (hl : σ'.length = σ.length) : ∀ (vs : List Nat), (∀ j, j ∉ vs → σ'[j]? = σ[j]?) → wipe σ' vs = wipe σ vs := fun vs h => by
  apply List.ext_getElem?
  intro j
  by_cases hj : j ∈ vs
  · have key : ∀ (τ : L2.St) (ws : List Nat), j ∈ ws → (wipe τ ws)[j]? = if j < τ.length then some none else none := by
      intro τ ws
      induction ws with
      | nil => intro h; cases h
      | cons w r ih =>
        intro hm
        show ((wipe τ r).set w none)[j]? = _
        by_cases e : w = j
        · subst e
          rw [List.getElem?_set]
          simp [wipe_length]
        · rw [List.getElem?_set_ne e]
          exact ih ((List.mem_cons.mp hm).resolve_left (Ne.symm e))
    rw [key σ' vs hj, key σ vs hj, hl]
  · have key : ∀ (τ : L2.St) (ws : List Nat), j ∉ ws → (wipe τ ws)[j]? = τ[j]? := by
      intro τ ws
      induction ws with
      | nil => intro _; rfl
      | cons w r ih =>
        intro hm
        show ((wipe τ r).set w none)[j]? = _
        have e : w ≠ j := fun z => hm (by simp [z])
        rw [List.getElem?_set_ne e]
        exact ih fun z => hm (by simp [z])
    rw [key σ' vs hj, key σ vs hj, h j hj]
theorem wipe_idem (σ : L2.St) (vs : List Nat) : wipe (wipe σ vs) vs = wipe σ vs := by
  refine wipe_eq (wipe_length σ vs) vs fun j hj => ?_
  induction vs with
  | nil => rfl
  | cons w r ih =>
    show ((wipe σ r).set w none)[j]? = _
    have e : w ≠ j := fun z => hj (by simp [z])
    rw [List.getElem?_set_ne e]
    exact ih fun z => hj (by simp [z])

structure VG (X : Cx) (W : Ws) (tg : Expr) (g : TG) (gf : D → En → Option En) (sl : List Nat) : Prop where
  pg : PG X tg g
  ok : ∀ Fo B H ρ σ d v ρ' (Q : L2.St → Hp → Prop), RS X.K W.c Fo B H ρ σ → Rep X.K W.c B d v → gf d ρ = some ρ' → (∀ σ', RS X.K W.c Fo B H ρ' σ' → σ'.length = σ.length → (∀ j, j ∉ sl → σ'[j]? = σ[j]?) → Q σ' H) → g v σ H Q
structure VGs (X : Cx) (W : Ws) (ts : List Expr) (g : TGs) (gf : List D → En → Option En) (sl : List Nat) : Prop where
  pg : PGs X ts g
  ok : ∀ Fo B H ρ σ d v ρ' (Q : L2.St → Hp → Prop), RS X.K W.c Fo B H ρ σ → RepL X.K W.c B d v → gf d ρ = some ρ' → (∀ σ', RS X.K W.c Fo B H ρ' σ' → σ'.length = σ.length → (∀ j, j ∉ sl → σ'[j]? = σ[j]?) → Q σ' H) → g v σ H Q
def fName (i : Nat) : D → En → Option En := fun d ρ => some (ρ.set i (.v d))
def fNil : List D → En → Option En := fun ds ρ => match ds with
  | [] => some ρ
  | _ => none
def fCons (f : D → En → Option En) (h : List D → En → Option En) : List D → En → Option En := fun ds ρ => match ds with
  | d :: r => (f d ρ).bind fun ρ1 => h r ρ1
  | [] => none
/-- a tuple unpacked -/
def fTup (n : Nat) (h : List D → En → Option En) : D → En → Option En := fun d ρ => match d with
  | .tup ds => if ds.length = n then h ds ρ else none
  | .ct ds => if ds.length = n then h ds ρ else none
  | _ => none
/-- a list unpacked -/
def fLst (n : Nat) (h : List D → En → Option En) : D → En → Option En := fun d ρ => match d with
  | .lst ds => if ds.length = n then h ds ρ else none
  | _ => none
section
variable {X : Cx} {W : Ws} {tg : Expr} {g : TG} {gs : TGs} {gf : D → En → Option En} {hf : List D → En → Option En} {s1 s2 : List Nat} {pos : Pos}
theorem vg_name (i : Nat) {x : Str} (hN : X.N.Nodup) (hi : X.N[i]? = some x := by rfl) (hx : Loc X.env.scope x := by first | exact .inl rfl | exact .inr rfl) (hf : X.fn x = true ∨ X.env.scope.names.lookup x = some .local := by first | exact .inl rfl | exact .inr rfl) :
    VG X W (.Name x pos) (gName i) (fName i) [i] := ⟨pg_name hN hi hx hf, fun Fo B H ρ σ d v ρ' Q r hv e q => by
  cases e
  exact q _ (r.setV i hv) (by simp) fun j hj => List.getElem?_set_ne (fun z => hj (by simp [z]))⟩
theorem vgs_nil : VGs X W [] gNil fNil [] := ⟨pgs_nil, fun Fo B H ρ σ d v ρ' Q r hv e q => by
  cases hv with
  | nil => cases e; exact ⟨rfl, q σ r rfl fun _ _ => rfl⟩
  | cons _ _ => cases e⟩
theorem vgs_cons {es : List Expr} (h1 : VG X W tg g gf s1) (h2 : VGs X W es gs hf s2) (hs : (assignEach (tg :: es) X.env).map (·.2) = assign tg X.env :: (assignEach es X.env).map (·.2) := by rfl) : VGs X W (tg :: es) (gCons g gs) (fCons gf hf) (s1 ++ s2) :=
  ⟨pgs_cons h1.pg h2.pg hs, fun Fo B H ρ σ d v ρ' Q r hv e q => by
    cases hv with
    | nil => cases e
    | @cons d0 v0 ds vs hv hr =>
      unfold fCons at e
      dsimp only at e
      cases h : gf d0 ρ with
      | none => rw [h] at e; cases e
      | some ρ1 =>
        rw [h] at e
        refine ⟨v0, vs, rfl, h1.ok Fo B H ρ σ d0 v0 ρ1 _ r hv h fun σ1 r1 l1 o1 => ?_⟩
        refine h2.ok Fo B H ρ1 σ1 ds vs ρ' Q r1 hr e fun σ2 r2 l2 o2 => q σ2 r2 (l2.trans l1) fun j hj => ?_
        rw [List.mem_append] at hj
        exact (o2 j fun z => hj (.inr z)).trans (o1 j fun z => hj (.inl z))⟩
theorem SqT.up {K : PySem.W.Frag} {B H : Hp} {a : Addr} {vs : List V} (s : Same B H) (h : SqT K B a vs) : SqT K H a vs := by
  rcases h with (h | ⟨o, h⟩) | h
  · exact .inl (.inl (s _ _ h))
  · exact .inl (.inr ⟨o, s _ _ h⟩)
  · exact .inr h
theorem vg_tup {es : List Expr} {k n : Nat} (hc : X.calm = true) (h : VGs X W es gs hf s1) (hn : (assignEach es X.env).length = n := by rfl) (hst : (assignEach es X.env).findIdx? (·.1) = none := by rfl) :
    VG X W (.Tuple es k pos) (gTup X.K n gs) (fTup n hf) s1 := ⟨pg_tup hc h.pg hn hst, fun Fo B H ρ σ d v ρ' Q r hv e q => by
  cases hv with
  | @tup a vs xs hb hr =>
    unfold fTup at e
    dsimp only at e
    split at e
    · rename_i hl
      exact ⟨a, vs, rfl, SqT.of (r.bh _ _ hb), hr.length.symm.trans hl, h.ok Fo B H ρ σ xs vs ρ' Q r hr e q⟩
    · cases e
  | @ct a vs xs hb hr =>
    unfold fTup at e
    dsimp only at e
    split at e
    · rename_i hl
      exact ⟨a, vs, rfl, VL.SqT.up r.bh hb, hr.length.symm.trans hl, h.ok Fo B H ρ σ xs vs ρ' Q r hr e q⟩
    · cases e
  | _ => cases e⟩
theorem vg_lst {es : List Expr} {k n : Nat} (hc : X.calm = true) (h : VGs X W es gs hf s1) (hn : (assignEach es X.env).length = n := by rfl) (hst : (assignEach es X.env).findIdx? (·.1) = none := by rfl) :
    VG X W (.Tuple es k pos) (gLst X.K n gs) (fLst n hf) s1 := ⟨pg_lst hc h.pg hn hst, fun Fo B H ρ σ d v ρ' Q r hv e q => by
  cases hv with
  | @lst a vs xs hb hr =>
    unfold fLst at e
    dsimp only at e
    split at e
    · rename_i hl
      exact ⟨a, vs, rfl, SqL.of (r.bh _ _ hb), hr.length.symm.trans hl, h.ok Fo B H ρ σ xs vs ρ' Q r hr e q⟩
    · cases e
  | _ => cases e⟩
/-- a, b = e -/
def gUnp (f : En → R D) (gf : D → En → Option En) : En → Out := gLet f fun d ρ => match gf d ρ with
  | some ρ' => .nx ρ'
  | none => .no
theorem vs_unp {e : Expr} {te : TE} {f : En → R D} (he : VE X W e te f) (hg : VG X W tg g gf s1) (hs : swapsWithSole [tg] e pos.line X.env = pure false := by rfl) (hw : swappedStores [tg] e X.env = pure none := by rfl)
    (h1 : (assignEach [tg] X.env).map (·.2) = [assign tg X.env] := by rfl) : VS X W (.Assign [tg] e pos) (tAsg te g) (gUnp f gf) :=
  ⟨ps_asg he.pe hg.pg hs hw h1, fun Fo B H ρ σ D r q => gLet_okE he r q fun d v B' H' s r' hv q' => by
    cases h : gf d ρ with
    | none => rw [h] at q'; exact q'.elim
    | some ρ' =>
      rw [h] at q'
      exact hg.ok Fo B' H' ρ σ d v ρ' _ r' hv h fun σ' r2 _ _ => q' B' H' σ' (Same.refl _) r2⟩
/-- a, b = x, y -/
def gPar (i j : Nat) (f : En → R (List D)) : En → Out := gLet f fun ds ρ => match ds with
  | [x, y] => .nx ((ρ.set i (.v x)).set j (.v y))
  | _ => .no
theorem vs_par (i j : Nat) {x y : Str} {a b : Expr} {ta : TA} {fn : En → R (List D)} {px py pt : Pos} {kt k2 pt2} (hc : X.calm = true) (hN : X.N.Nodup) (ha : VA X W [a, b] ta fn) (hi : X.N[i]? = some x := by rfl) (hj : X.N[j]? = some y := by rfl) (hij : i ≠ j := by decide)
    (hx : X.env.scope.names.lookup x = some .local := by rfl) (hy : X.env.scope.names.lookup y = some .local := by rfl)
    (hw : swappedStores [.Tuple [.Name x px, .Name y py] kt pt] (.Tuple [a, b] k2 pt2) X.env = pure (some [x, y]) := by rfl)
    (hs : swapsWithSole [.Tuple [.Name x px, .Name y py] kt pt] (.Tuple [a, b] k2 pt2) pos.line X.env = pure false := by rfl) :
    VS X W (.Assign [.Tuple [.Name x px, .Name y py] kt pt] (.Tuple [a, b] k2 pt2) pos) (tPar i j ta) (gPar i j fn) :=
  ⟨ps_par hc hN hi hj hij hx hy ha.pe hw hs, fun Fo B H ρ σ D r q => gLet_okA ha r q fun d vs B' H' s r' hv q' => by
    cases hv with
    | nil => exact q'.elim
    | cons r1 w1 =>
      cases w1 with
      | nil => exact q'.elim
      | cons r2 w2 =>
        cases w2 with
        | cons _ _ => exact q'.elim
        | nil => exact ⟨_, _, rfl, q' B' H' _ (Same.refl _) ((r'.setV i r1).setV j r2)⟩⟩
end

/-! ### what is walked -/
/-- .. its values shared in B, the walked thing in G -/
structure WalkD (K : PySem.W.Frag) (c : Cs) (B G : Hp) (J : It) (ds : List D) : Prop where
  go : ∀ i H d, Same G H → ds[i]? = some d → J.go i H ∧ ∀ x H' B1, J.yld i H x H' → Same B B1 → Same B1 H → ∃ B', Up B1 H B' H' ∧ Rep K c B' d x
  stop : ∀ i H, Same G H → i = ds.length → J.stop i H
theorem WalkD.mono {K : PySem.W.Frag} {c : Cs} {B G G' : Hp} {J : It} {ds : List D} (w : WalkD K c B G J ds) (s : Same G G') : WalkD K c B G' J ds :=
  ⟨fun i H d e => w.go i H d (s.trans e), fun i H e => w.stop i H (s.trans e)⟩
def IPost (K : PySem.W.Frag) (W : Ws) (σ : L2.St) (B H : Hp) (r : R (List D)) (Rr : It → Hp → Prop) : Prop := match r with
  | .ok ds => ∀ J B' H', Up B H B' H' → WalkD K W.c B' B' J ds → Rr J H'
  | .er C => ∀ B' H', Up B H B' H' → W.W (.ref (W.c.cl C)) none σ H'
  | .no => False
/-- .. while nothing is written -/
def IPostP (K : PySem.W.Frag) (W : Ws) (σ : L2.St) (B H : Hp) (r : R (List D)) (Rr : It → Hp → Prop) : Prop := match r with
  | .ok ds => ∀ J B' H', Up B H B' H' → WalkD K W.c B' H' J ds → Rr J H'
  | .er C => ∀ B' H', Up B H B' H' → W.W (.ref (W.c.cl C)) none σ H'
  | .no => False
structure VI (X : Cx) (W : Ws) (tg iter : Expr) (wi : TI) (f : En → R (List D)) : Prop where
  pi : PI X tg iter wi
  ok : ∀ Fo B H ρ σ Rr, RS X.K W.c Fo B H ρ σ → IPost X.K W σ B H (f ρ) Rr → wi σ H Rr
structure VIP (X : Cx) (W : Ws) (tg iter : Expr) (wi : TI) (f : En → R (List D)) : Prop where
  pi : PI X tg iter wi
  ok : ∀ Fo B H ρ σ Rr, RS X.K W.c Fo B H ρ σ → IPostP X.K W σ B H (f ρ) Rr → wi σ H Rr
theorem vip_of {X : Cx} {W : Ws} {tg iter : Expr} {wi : TI} {f : En → R (List D)} (h : VI X W tg iter wi f) : VIP X W tg iter wi f := ⟨h.pi, fun Fo B H ρ σ Rr r q => h.ok Fo B H ρ σ Rr r (by
  cases e : f ρ with
  | ok ds => rw [e] at q; exact fun J B' H' u w => q J B' H' u (w.mono u.bh)
  | er C => rw [e] at q; exact q
  | no => rw [e] at q; exact q)⟩
theorem walk_listT {K : PySem.W.Frag} {c : Cs} {B G : Hp} {a : Addr} {vs : List V} {ds : List D} (h : SqL K G a vs) (r : RepL K c B ds vs) : WalkD K c B G (Itl K a) ds where
  go := fun i H d s e => by
    obtain ⟨v, hv, hr⟩ := r.get e
    refine ⟨⟨vs, v, s.seq h, hv⟩, fun x H' B1 y sb sh => ?_⟩
    obtain ⟨rfl, f⟩ := y
    have e2 := f vs (s.seq h)
    rw [hv] at e2
    cases e2
    exact ⟨B1, Up.refl sh, hr.up sb⟩
  stop := fun i H s e => ⟨vs, s.seq h, by rw [← r.length]; omega⟩
theorem walk_tupT {K : PySem.W.Frag} {c : Cs} {B G : Hp} {a : Addr} {vs : List V} {ds : List D} (h : SqT K G a vs) (r : RepL K c B ds vs) : WalkD K c B G (Itt K a) ds where
  go := fun i H d s e => by
    obtain ⟨v, hv, hr⟩ := r.get e
    refine ⟨⟨vs, v, VL.SqT.up s h, hv⟩, fun x H' B1 y sb sh => ?_⟩
    obtain ⟨rfl, f⟩ := y
    have e2 := f vs (VL.SqT.up s h)
    rw [hv] at e2
    cases e2
    exact ⟨B1, Up.refl sh, hr.up sb⟩
  stop := fun i H s e => ⟨vs, VL.SqT.up s h, by rw [← r.length]; omega⟩
theorem walk_rng {K : PySem.W.Frag} {c : Cs} {B G : Hp} {lo : Int} {n : Nat} : WalkD K c B G (Itr lo n) ((List.range n).map fun i => .int (lo + (i : Nat))) where
  go := fun i H d s e => by
    rw [List.getElem?_map] at e
    by_cases hi : i < n
    · rw [List.getElem?_range hi] at e
      cases e
      refine ⟨hi, fun x H' B1 y sb sh => ?_⟩
      obtain ⟨rfl, rfl⟩ := y
      exact ⟨B1, Up.refl sh, .int _⟩
    · rw [List.getElem?_eq_none_iff.mpr (by simp; omega)] at e
      cases e
  stop := fun i H s e => by
    simp at e
    exact Nat.le_of_eq e.symm
theorem walk_rngC {K : PySem.W.Frag} {cs : Cs} {B G : Hp} {lo c : Int} {n : Nat} : WalkD K cs B G (Itc lo c n) ((List.range n).map fun i => .int (lo + (i : Nat) * c)) where
  go := fun i H d s e => by
    rw [List.getElem?_map] at e
    by_cases hi : i < n
    · rw [List.getElem?_range hi] at e
      cases e
      refine ⟨hi, fun x H' B1 y sb sh => ?_⟩
      obtain ⟨rfl, rfl⟩ := y
      exact ⟨B1, Up.refl sh, .int _⟩
    · rw [List.getElem?_eq_none_iff.mpr (by simp; omega)] at e
      cases e
  stop := fun i H s e => by
    simp at e
    exact Nat.le_of_eq e.symm
theorem walk_enum {K : PySem.W.Frag} {c : Cs} {B G : Hp} {a : Addr} {vs : List V} {ds : List D} (h : SqL K G a vs) (r : RepL K c B ds vs) : WalkD K c B G (Ite K a) (ds.zipIdx.map fun p => .tup [.int (p.2 : Nat), p.1]) where
  go := fun i H d s e => by
    rw [List.getElem?_map, List.getElem?_zipIdx] at e
    cases hd : ds[i]? with
    | none => rw [hd] at e; cases e
    | some d0 =>
      rw [hd] at e
      simp at e
      subst e
      obtain ⟨v, hv, hr⟩ := r.get hd
      refine ⟨⟨vs, v, s.seq h, hv⟩, fun x H' B1 y sb sh => ?_⟩
      obtain ⟨T, x0, rfl, hT, rfl, f⟩ := y
      have e2 := f vs (s.seq h)
      rw [hv] at e2
      cases e2
      exact ⟨_, Up.new sh hT, .tup upd_same (.cons (.int _) (.cons ((hr.up sb).up (Up.new (o := .tup [V.int (i : Nat), v]) sh hT).b) .nil))⟩
  stop := fun i H s e => ⟨vs, s.seq h, by
    simp at e
    rw [← r.length]
    omega⟩
theorem walk_zip {K : PySem.W.Frag} {c : Cs} {B G : Hp} {a b : Addr} {vs ws : List V} {ds es : List D} (h : SqL K G a vs) (h' : SqL K G b ws) (r : RepL K c B ds vs) (r' : RepL K c B es ws) : WalkD K c B G (Itz K a b) ((ds.zip es).map fun p => .tup [p.1, p.2]) where
  go := fun i H d s e => by
    rw [List.getElem?_map] at e
    cases hz : (ds.zip es)[i]? with
    | none => rw [hz] at e; cases e
    | some p =>
      rw [hz] at e
      cases e
      obtain ⟨d1, d2⟩ := p
      have hz' := hz
      rw [List.getElem?_zip_eq_some] at hz'
      obtain ⟨e1, e2⟩ := hz'
      obtain ⟨v, hv, hr⟩ := r.get e1
      obtain ⟨w, hw, hr'⟩ := r'.get e2
      refine ⟨⟨vs, ws, v, w, s.seq h, s.seq h', hv, hw⟩, fun x H' B1 y sb sh => ?_⟩
      obtain ⟨T, x0, y0, rfl, hT, rfl, f1, f2⟩ := y
      have q1 := f1 vs (s.seq h)
      rw [hv] at q1
      cases q1
      have q2 := f2 ws (s.seq h')
      rw [hw] at q2
      cases q2
      have ub := (Up.new (o := .tup [v, w]) sh hT).b
      exact ⟨_, Up.new sh hT, .tup upd_same (.cons ((hr.up sb).up ub) (.cons ((hr'.up sb).up ub) .nil))⟩
  stop := fun i H s e => ⟨vs, ws, s.seq h, s.seq h', by
    simp at e
    rw [← r.length, ← r'.length]
    omega⟩
def dIList (f : En → R D) : En → R (List D) := fun ρ => (f ρ).bind fun d => match d with
  | .lst ds => .ok ds
  | .ro ds => .ok ds
  | _ => .no
def dITup (f : En → R D) : En → R (List D) := fun ρ => (f ρ).bind fun d => match d with
  | .tup ds => .ok ds
  | .ct ds => .ok ds
  | _ => .no
def rngD (lo hi : Int) : List D := (List.range (hi - lo).toNat).map fun i => .int (lo + (i : Nat))
def rngC (lo c : Int) (n : Nat) : List D := (List.range n).map fun i => .int (lo + (i : Nat) * c)
def dRng (f : En → R (List D)) : En → R (List D) := fun ρ => (f ρ).bind fun ds => match ds with
  | [.int j] => if -(2 ^ 62) ≤ j ∧ j < 2 ^ 62 then .ok (rngD 0 j) else .no
  | [.int i, .int j] => if -(2 ^ 62) ≤ i ∧ i < 2 ^ 62 ∧ -(2 ^ 62) ≤ j ∧ j < 2 ^ 62 then .ok (rngD i j) else .no
  | [.int i, .int j, .int c] => if c ≠ 0 ∧ c.natAbs < 1073741824 ∧ Builtin.Range.small i j c = true ∧ 0 ≤ Builtin.Range.rangeSize i j c then .ok (rngC i c (Builtin.Range.rangeSize i j c).toNat) else .no
  | _ => .no
def dEnum (f : En → R (List D)) : En → R (List D) := fun ρ => (f ρ).bind fun ds => match ds with
  | [.lst xs] => .ok (xs.zipIdx.map fun p => .tup [.int (p.2 : Nat), p.1])
  | _ => .no
def dZip (f : En → R (List D)) : En → R (List D) := fun ρ => (f ρ).bind fun ds => match ds with
  | [.lst xs, .lst ys] => .ok ((xs.zip ys).map fun p => .tup [p.1, p.2])
  | _ => .no
section
variable {X : Cx} {W : Ws} {tg l : Expr} {tl : TE} {f : En → R D} {fn : En → R (List D)} {tA : TA} {p pos : Pos}
/-- a walk by a value -/
theorem vi_list (h : VE X W l tl f) : VI X W tg l (iList X.K tl) (dIList f) := ⟨pi_list h.pe, fun Fo B H ρ σ Rr r q => by
  unfold dIList at q
  refine h.ok Fo B H ρ σ _ r ?_
  cases e : f ρ with
  | no => rw [e] at q; exact q
  | er C => rw [e] at q; exact q
  | ok d =>
    rw [e, R.bind_ok] at q
    intro v B' H' u hv
    cases hv with
    | lst h1 h2 => exact ⟨_, rfl, ⟨_, SqL.of (u.bh _ _ h1)⟩, q _ B' H' u (walk_listT (SqL.of h1) h2)⟩
    | ro h1 h2 => exact ⟨_, rfl, ⟨_, u.bh.seq h1⟩, q _ B' H' u (walk_listT h1 h2)⟩
    | _ => exact q.elim⟩
theorem vip_list (h : VP X W l tl f) : VIP X W tg l (iList X.K tl) (dIList f) := ⟨pi_list h.pe, fun Fo B H ρ σ Rr r q => by
  unfold dIList at q
  refine h.ok Fo B H ρ σ _ r ?_
  cases e : f ρ with
  | no => rw [e] at q; exact q
  | er C => rw [e] at q; exact q
  | ok d =>
    rw [e, R.bind_ok] at q
    intro v B' H' u hv
    rcases hv with hv | ⟨xs, p, vs, rfl, rfl, a1, a2⟩
    · cases hv with
      | lst h1 h2 => exact ⟨_, rfl, ⟨_, SqL.of (u.bh _ _ h1)⟩, q _ B' H' u (walk_listT (SqL.of (u.bh _ _ h1)) h2)⟩
      | ro h1 h2 => exact ⟨_, rfl, ⟨_, u.bh.seq h1⟩, q _ B' H' u (walk_listT (u.bh.seq h1) h2)⟩
      | _ => exact q.elim
    · exact ⟨_, rfl, ⟨_, SqL.of a1⟩, q _ B' H' u (walk_listT (SqL.of a1) a2)⟩⟩
theorem vi_tup (h : VE X W l tl f) : VI X W tg l (iTup X.K tl) (dITup f) := ⟨pi_tup h.pe, fun Fo B H ρ σ Rr r q => by
  unfold dITup at q
  refine h.ok Fo B H ρ σ _ r ?_
  cases e : f ρ with
  | no => rw [e] at q; exact q
  | er C => rw [e] at q; exact q
  | ok d =>
    rw [e, R.bind_ok] at q
    intro v B' H' u hv
    cases hv with
    | tup h1 h2 => exact ⟨_, rfl, ⟨_, SqT.of (u.bh _ _ h1)⟩, q _ B' H' u (walk_tupT (SqT.of h1) h2)⟩
    | ct h1 h2 => exact ⟨_, rfl, ⟨_, VL.SqT.up u.bh h1⟩, q _ B' H' u (walk_tupT h1 h2)⟩
    | _ => exact q.elim⟩
theorem vi_args {r : List V → Hp → (It → Hp → Prop) → Prop} {g : List D → R (List D)} {es : List Expr} (ha : VA X W es tA fn) (hr : ∀ B H vs ds xs (Rr : It → Hp → Prop), Same B H → RepL X.K W.c B ds vs → g ds = .ok xs → (∀ J, WalkD X.K W.c B B J xs → Rr J H) → r vs H Rr) (hg : ∀ ds C, g ds ≠ .er C)
    {Fo B H ρ σ Rr} (rs : RS X.K W.c Fo B H ρ σ) (q : IPost X.K W σ B H ((fn ρ).bind g) Rr) : tA σ H fun vs H1 => r vs H1 Rr := by
  refine ha.ok Fo B H ρ σ _ rs ?_
  cases e : fn ρ with
  | no => rw [e] at q; exact q
  | er C => rw [e] at q; exact q
  | ok ds =>
    rw [e, R.bind_ok] at q
    intro vs B' H' u hv
    cases e2 : g ds with
    | no => rw [e2] at q; exact q.elim
    | er C => exact absurd e2 (hg ds C)
    | ok xs =>
      rw [e2] at q
      exact hr B' H' vs ds xs Rr u.bh hv e2 fun J w => q J B' H' u w
theorem vip_args {r : List V → Hp → (It → Hp → Prop) → Prop} {g : List D → R (List D)} {es : List Expr} (ha : VAP X W es tA fn) (hr : ∀ B H vs ds xs (Rr : It → Hp → Prop), Same B H → RepTL X.K W.c B H ds vs → g ds = .ok xs → (∀ J, WalkD X.K W.c B H J xs → Rr J H) → r vs H Rr) (hg : ∀ ds C, g ds ≠ .er C)
    {Fo B H ρ σ Rr} (rs : RS X.K W.c Fo B H ρ σ) (q : IPostP X.K W σ B H ((fn ρ).bind g) Rr) : tA σ H fun vs H1 => r vs H1 Rr := by
  refine ha.ok Fo B H ρ σ _ rs ?_
  cases e : fn ρ with
  | no => rw [e] at q; exact q
  | er C => rw [e] at q; exact q
  | ok ds =>
    rw [e, R.bind_ok] at q
    intro vs B' H' u hv
    cases e2 : g ds with
    | no => rw [e2] at q; exact q.elim
    | er C => exact absurd e2 (hg ds C)
    | ok xs =>
      rw [e2] at q
      exact hr B' H' vs ds xs Rr u.bh hv e2 fun J w => q J B' H' u w
theorem repL_1 {K : PySem.W.Frag} {c : Cs} {B : Hp} {d : D} {vs : List V} (h : RepL K c B [d] vs) : ∃ v, vs = [v] ∧ Rep K c B d v := by
  cases h with
  | cons a b => cases b; exact ⟨_, rfl, a⟩
theorem repL_2 {K : PySem.W.Frag} {c : Cs} {B : Hp} {d e : D} {vs : List V} (h : RepL K c B [d, e] vs) : ∃ v w, vs = [v, w] ∧ Rep K c B d v ∧ Rep K c B e w := by
  cases h with
  | cons a b =>
    obtain ⟨w, rfl, c⟩ := repL_1 b
    exact ⟨_, _, rfl, a, c⟩
theorem repL_3 {K : PySem.W.Frag} {c : Cs} {B : Hp} {d e f : D} {vs : List V} (h : RepL K c B [d, e, f] vs) : ∃ v w x, vs = [v, w, x] ∧ Rep K c B d v ∧ Rep K c B e w ∧ Rep K c B f x := by
  cases h with
  | cons a b =>
    obtain ⟨w, x, rfl, c, c'⟩ := repL_2 b
    exact ⟨_, _, _, rfl, a, c, c'⟩
theorem rep_int {K : PySem.W.Frag} {c : Cs} {B : Hp} {i : Int} {v : V} (h : Rep K c B (.int i) v) : v = .int i := by cases h; rfl
def grng : List D → R (List D) := fun ds => match ds with
  | [.int j] => if -(2 ^ 62) ≤ j ∧ j < 2 ^ 62 then .ok (rngD 0 j) else .no
  | [.int i, .int j] => if -(2 ^ 62) ≤ i ∧ i < 2 ^ 62 ∧ -(2 ^ 62) ≤ j ∧ j < 2 ^ 62 then .ok (rngD i j) else .no
  | [.int i, .int j, .int c] => if c ≠ 0 ∧ c.natAbs < 1073741824 ∧ Builtin.Range.small i j c = true ∧ 0 ≤ Builtin.Range.rangeSize i j c then .ok (rngC i c (Builtin.Range.rangeSize i j c).toNat) else .no
  | _ => .no
theorem grng_er (ds : List D) (C : Addr) : grng ds ≠ .er C := fun h => by
  unfold grng at h
  split at h
  · rename_i j
    by_cases q : -(2 ^ 62) ≤ j ∧ j < 2 ^ 62
    · rw [if_pos q] at h; cases h
    · rw [if_neg q] at h; cases h
  · rename_i i j
    by_cases q : -(2 ^ 62) ≤ i ∧ i < 2 ^ 62 ∧ -(2 ^ 62) ≤ j ∧ j < 2 ^ 62
    · rw [if_pos q] at h; cases h
    · rw [if_neg q] at h; cases h
  · rename_i i j c
    by_cases q : c ≠ 0 ∧ c.natAbs < 1073741824 ∧ Builtin.Range.small i j c = true ∧ 0 ≤ Builtin.Range.rangeSize i j c
    · rw [if_pos q] at h; cases h
    · rw [if_neg q] at h; cases h
  · cases h
theorem vi_range1 {a : Expr} (hm : X.mg "range" = none) (ha : VA X W [a] tA fn) (hl : ∀ ρ ds, fn ρ = .ok ds → ds.length = 1 := by repeat (first | exact len_nil | refine len_cons ?_)) (hg : Gl X "range" := by rfl) (hs : starEach [a] X.env = [(false, eval a X.env)] := by rfl) : VI X W tg (.Call (.Name "range" p) [a] [] pos) (iRng1 tA) (dRng fn) := ⟨pi_range1 hg hm ha.pe hs, fun Fo B H ρ σ Rr rs q => by
  have q' : IPost X.K W σ B H ((fn ρ).bind grng) Rr := q
  refine ha.ok Fo B H ρ σ _ rs ?_
  cases e : fn ρ with
  | no => rw [e] at q'; exact q'
  | er C => rw [e] at q'; exact q'
  | ok ds =>
    rw [e, R.bind_ok] at q'
    have hd := hl ρ ds e
    match ds, hd with
    | [d], _ =>
      intro vs B' H' u hvs
      obtain ⟨v, rfl, hv⟩ := repL_1 hvs
      cases d with
      | int j =>
        cases rep_int hv
        unfold grng at q'
        dsimp only at q'
        by_cases hj : -(2 ^ 62) ≤ j ∧ j < 2 ^ 62
        · rw [if_pos hj] at q'
          refine ⟨j, rfl, hj.1, hj.2, q' _ B' H' u ?_⟩
          unfold rngD
          rw [Int.sub_zero]
          exact walk_rng
        · rw [if_neg hj] at q'
          exact q'.elim
      | _ => exact q'.elim⟩
theorem vi_range2 {a b : Expr} (hm : X.mg "range" = none) (ha : VA X W [a, b] tA fn) (hl : ∀ ρ ds, fn ρ = .ok ds → ds.length = 2 := by repeat (first | exact len_nil | refine len_cons ?_)) (hg : Gl X "range" := by rfl)
    (hs : starEach [a, b] X.env = [(false, eval a X.env), (false, eval b X.env)] := by rfl) (hs2 : starEach [b] X.env = [(false, eval b X.env)] := by rfl) : VI X W tg (.Call (.Name "range" p) [a, b] [] pos) (iRng2 tA) (dRng fn) := ⟨pi_range2 hg hm ha.pe hs hs2, fun Fo B H ρ σ Rr rs q => by
  have q' : IPost X.K W σ B H ((fn ρ).bind grng) Rr := q
  refine ha.ok Fo B H ρ σ _ rs ?_
  cases e : fn ρ with
  | no => rw [e] at q'; exact q'
  | er C => rw [e] at q'; exact q'
  | ok ds =>
    rw [e, R.bind_ok] at q'
    have hd := hl ρ ds e
    match ds, hd with
    | [d, d2], _ =>
      intro vs B' H' u hvs
      obtain ⟨v, w, rfl, hv, hw⟩ := repL_2 hvs
      cases d with
      | int i =>
        cases d2 with
        | int j =>
          cases rep_int hv
          cases rep_int hw
          unfold grng at q'
          dsimp only at q'
          by_cases hj : -(2 ^ 62) ≤ i ∧ i < 2 ^ 62 ∧ -(2 ^ 62) ≤ j ∧ j < 2 ^ 62
          · rw [if_pos hj] at q'
            exact ⟨i, j, rfl, hj, q' _ B' H' u walk_rng⟩
          · rw [if_neg hj] at q'
            exact q'.elim
        | _ => exact q'.elim
      | _ => cases d2 <;> exact q'.elim⟩
theorem vi_range3 {a b c : Expr} (hm : X.mg "range" = none) (ha : VA X W [a, b, c] tA fn) (hl : ∀ ρ ds, fn ρ = .ok ds → ds.length = 3 := by repeat (first | exact len_nil | refine len_cons ?_)) (hg : Gl X "range" := by rfl)
    (hs : starEach [a, b, c] X.env = (false, eval a X.env) :: starEach [b, c] X.env := by rfl) (hpl : (backTo pos (starEach [b, c] X.env)).any (·.1) = false := by rfl) : VI X W tg (.Call (.Name "range" p) [a, b, c] [] pos) (iRng3 tA) (dRng fn) := ⟨pi_range3 hg hm ha.pe hs hpl, fun Fo B H ρ σ Rr rs q => by
  have q' : IPost X.K W σ B H ((fn ρ).bind grng) Rr := q
  refine ha.ok Fo B H ρ σ _ rs ?_
  cases e : fn ρ with
  | no => rw [e] at q'; exact q'
  | er C => rw [e] at q'; exact q'
  | ok ds =>
    rw [e, R.bind_ok] at q'
    have hd := hl ρ ds e
    match ds, hd with
    | [d, d2, d3], _ =>
      intro vs B' H' u hvs
      obtain ⟨v, w, x, rfl, hv, hw, hx⟩ := repL_3 hvs
      cases d with
      | int i =>
        cases d2 with
        | int j =>
          cases d3 with
          | int k =>
            cases rep_int hv
            cases rep_int hw
            cases rep_int hx
            unfold grng at q'
            dsimp only at q'
            by_cases hj : k ≠ 0 ∧ k.natAbs < 1073741824 ∧ Builtin.Range.small i j k = true ∧ 0 ≤ Builtin.Range.rangeSize i j k
            · rw [if_pos hj] at q'
              exact ⟨i, j, k, _, rfl, ⟨hj.1, hj.2.1, hj.2.2.1, (Int.toNat_of_nonneg hj.2.2.2).symm⟩, q' _ B' H' u walk_rngC⟩
            · rw [if_neg hj] at q'
              exact q'.elim
          | _ => exact q'.elim
        | _ => cases d3 <;> exact q'.elim
      | _ => cases d2 <;> cases d3 <;> exact q'.elim⟩
end
end VL
set_option maxRecDepth 100000
set_option maxHeartbeats 4000000
namespace VL
open PySem PySem.Spec PyProof.Rows L2

section
variable {X : Cx} {W : Ws} {tg iter e e2 : Expr} {wi : TI} {g : TG} {gf : D → En → Option En} {sl : List Nat} {tb : TS} {gb : En → Out} {fi : En → R (List D)} {tA : TA} {fn : En → R (List D)} {body : List Stmt} {p pos tpos : Pos} {elts : List Expr} {kk : Nat}
/-! ### enumerate, zip -/
def genum : List D → R (List D) := fun ds => match ds with
  | [.lst xs] => .ok (xs.zipIdx.map fun p => .tup [.int (p.2 : Nat), p.1])
  | _ => .no
def gzip : List D → R (List D) := fun ds => match ds with
  | [.lst xs, .lst ys] => .ok ((xs.zip ys).map fun p => .tup [p.1, p.2])
  | _ => .no
theorem genum_er (ds : List D) (C : Addr) : genum ds ≠ .er C := fun h => by
  unfold genum at h
  split at h <;> cases h
theorem gzip_er (ds : List D) (C : Addr) : gzip ds ≠ .er C := fun h => by
  unfold gzip at h
  split at h <;> cases h
theorem repT_lst {K : PySem.W.Frag} {c : Cs} {B H : Hp} {xs : List D} {v : V} (s : Same B H) (h : RepT K c B H (.lst xs) v) : ∃ a vs, v = .ref a ∧ H a = some (.lst vs) ∧ RepL K c B xs vs := by
  rcases h with h | ⟨ys, p, vs, e, e2, a1, a2⟩
  · cases h with
    | lst h1 h2 => exact ⟨_, _, rfl, s _ _ h1, h2⟩
  · cases e
    exact ⟨_, _, e2, a1, a2⟩
theorem repTL_1 {K : PySem.W.Frag} {c : Cs} {B H : Hp} {d : D} {vs : List V} (h : RepTL K c B H [d] vs) : ∃ v, vs = [v] ∧ RepT K c B H d v := by
  cases h with
  | cons a b => cases b; exact ⟨_, rfl, a⟩
theorem repTL_2 {K : PySem.W.Frag} {c : Cs} {B H : Hp} {d e : D} {vs : List V} (h : RepTL K c B H [d, e] vs) : ∃ v w, vs = [v, w] ∧ RepT K c B H d v ∧ RepT K c B H e w := by
  cases h with
  | cons a b =>
    obtain ⟨w, rfl, c⟩ := repTL_1 b
    exact ⟨_, _, rfl, a, c⟩
theorem genum_inv {ds xs : List D} (h : genum ds = .ok xs) : ∃ ys, ds = [.lst ys] ∧ xs = ys.zipIdx.map fun p => .tup [.int (p.2 : Nat), p.1] := by
  unfold genum at h
  split at h
  · cases h; exact ⟨_, rfl, rfl⟩
  · cases h
theorem gzip_inv {ds xs : List D} (h : gzip ds = .ok xs) : ∃ ys zs, ds = [.lst ys, .lst zs] ∧ xs = (ys.zip zs).map fun p => .tup [p.1, p.2] := by
  unfold gzip at h
  split at h
  · cases h; exact ⟨_, _, rfl, rfl⟩
  · cases h
theorem vi_enum (hm : X.mg "enumerate" = none) (ha : VA X W [e] tA fn) (hp : PA X [e] tA → PI X (.Tuple elts kk tpos) (.Call (.Name "enumerate" p) [e] [] pos) (iEnum X.K tA)) : VI X W (.Tuple elts kk tpos) (.Call (.Name "enumerate" p) [e] [] pos) (iEnum X.K tA) (fun ρ => (fn ρ).bind genum) :=
  ⟨hp ha.pe, fun Fo B H ρ σ Rr rs q => vi_args (r := fun vs H1 R => ∃ (a : Addr) (xs : List V), vs = [.ref a] ∧ SqL X.K H1 a xs ∧ R (Ite X.K a) H1) ha (fun B H vs ds xs Rr s hr hx k => by
    obtain ⟨ys, rfl, rfl⟩ := genum_inv hx
    obtain ⟨v, rfl, hv⟩ := repL_1 hr
    cases hv with
    | lst h1 h2 => exact ⟨_, _, rfl, SqL.of (s _ _ h1), k _ (walk_enum (SqL.of h1) h2)⟩) genum_er rs q⟩
theorem vip_enum (hm : X.mg "enumerate" = none) (ha : VAP X W [e] tA fn) (hp : PA X [e] tA → PI X (.Tuple elts kk tpos) (.Call (.Name "enumerate" p) [e] [] pos) (iEnum X.K tA)) : VIP X W (.Tuple elts kk tpos) (.Call (.Name "enumerate" p) [e] [] pos) (iEnum X.K tA) (fun ρ => (fn ρ).bind genum) :=
  ⟨hp ha.pe, fun Fo B H ρ σ Rr rs q => vip_args (r := fun vs H1 R => ∃ (a : Addr) (xs : List V), vs = [.ref a] ∧ SqL X.K H1 a xs ∧ R (Ite X.K a) H1) ha (fun B H vs ds xs Rr s hr hx k => by
    obtain ⟨ys, rfl, rfl⟩ := genum_inv hx
    obtain ⟨v, rfl, hv⟩ := repTL_1 hr
    obtain ⟨a, us, rfl, h1, h2⟩ := repT_lst s hv
    exact ⟨_, _, rfl, SqL.of h1, k _ (walk_enum (SqL.of h1) h2)⟩) genum_er rs q⟩
theorem vi_zip (hm : X.mg "zip" = none) (ha : VA X W [e, e2] tA fn) (hp : PA X [e, e2] tA → PI X (.Tuple elts kk tpos) (.Call (.Name "zip" p) [e, e2] [] pos) (iZip X.K tA)) : VI X W (.Tuple elts kk tpos) (.Call (.Name "zip" p) [e, e2] [] pos) (iZip X.K tA) (fun ρ => (fn ρ).bind gzip) :=
  ⟨hp ha.pe, fun Fo B H ρ σ Rr rs q => vi_args (r := fun vs H1 R => ∃ a b xs ys, vs = [.ref a, .ref b] ∧ SqL X.K H1 a xs ∧ SqL X.K H1 b ys ∧ R (Itz X.K a b) H1) ha (fun B H vs ds xs Rr s hr hx k => by
    obtain ⟨ys, zs, rfl, rfl⟩ := gzip_inv hx
    obtain ⟨v, w, rfl, hv, hw⟩ := repL_2 hr
    cases hv with
    | lst h1 h2 => cases hw with
      | lst h3 h4 => exact ⟨_, _, _, _, rfl, SqL.of (s _ _ h1), SqL.of (s _ _ h3), k _ (walk_zip (SqL.of h1) (SqL.of h3) h2 h4)⟩) gzip_er rs q⟩
theorem vip_zip (hm : X.mg "zip" = none) (ha : VAP X W [e, e2] tA fn) (hp : PA X [e, e2] tA → PI X (.Tuple elts kk tpos) (.Call (.Name "zip" p) [e, e2] [] pos) (iZip X.K tA)) : VIP X W (.Tuple elts kk tpos) (.Call (.Name "zip" p) [e, e2] [] pos) (iZip X.K tA) (fun ρ => (fn ρ).bind gzip) :=
  ⟨hp ha.pe, fun Fo B H ρ σ Rr rs q => vip_args (r := fun vs H1 R => ∃ a b xs ys, vs = [.ref a, .ref b] ∧ SqL X.K H1 a xs ∧ SqL X.K H1 b ys ∧ R (Itz X.K a b) H1) ha (fun B H vs ds xs Rr s hr hx k => by
    obtain ⟨ys, zs, rfl, rfl⟩ := gzip_inv hx
    obtain ⟨v, w, rfl, hv, hw⟩ := repTL_2 hr
    obtain ⟨a, us, rfl, h1, h2⟩ := repT_lst s hv
    obtain ⟨b, ws, rfl, h3, h4⟩ := repT_lst s hw
    exact ⟨_, _, _, _, rfl, SqL.of h1, SqL.of h3, k _ (walk_zip (SqL.of h1) (SqL.of h3) h2 h4)⟩) gzip_er rs q⟩

/-! ### for, while -/
theorem vs_for (C : Ctx X W) (hi : VI X W tg iter wi fi) (hg : VG X W tg g gf sl) (hb : VSs X W body tb gb) (hs : ∀ x, foldedSetIterable iter X.env x = pure x := by intro _; rfl) : VS X W (.For tg iter body [] pos) (tFor wi g tb) (gFor fi gf gb) :=
  ⟨ps_for C.po C.calm hi.pi hg.pg hb.ps hs, fun Fo B H ρ σ D r q => by
    unfold gFor gLet at q
    refine hi.ok Fo B H ρ σ _ r ?_
    cases h : fi ρ with
    | no => rw [h] at q; exact q
    | er C => rw [h] at q; exact fun B' H' u => q B' H' σ u.b (r.up u)
    | ok ds =>
      rw [h] at q
      intro J B0 H0 u w
      refine ⟨fun i m σ' H' => m = ds.length - i ∧ i ≤ ds.length ∧ ∃ B' ρ', Same B0 B' ∧ RS X.K W.c Fo B' H' ρ' σ' ∧ SPost X.K W Fo B' (forD gf gb (ds.drop i) ρ') D, ⟨ds.length, by simp, Nat.zero_le _, B0, ρ, Same.refl _, r.up u, SPost.next u.b q⟩, ?_⟩
      rintro i m σ1 H1 ⟨rfl, hi', B1, ρ1, s1, r1, q1⟩
      by_cases hl : i < ds.length
      · right
        have hd : ds[i]? = some ds[i] := List.getElem?_eq_getElem hl
        have sG : Same B0 H1 := s1.trans r1.bh
        refine ⟨(w.go i H1 ds[i] sG hd).1, fun σ' H' => ds.length - (i + 1) = ds.length - (i + 1) ∧ i + 1 ≤ ds.length ∧ ∃ B' ρ', Same B0 B' ∧ RS X.K W.c Fo B' H' ρ' σ' ∧ SPost X.K W Fo B' (forD gf gb (ds.drop (i + 1)) ρ') D,
          fun σ' H' hN => ⟨ds.length - (i + 1), by omega, rfl, hN.2⟩, fun x H2 y => ?_⟩
        obtain ⟨B2, u2, hx⟩ := (w.go i H1 ds[i] sG hd).2 x H2 B1 y s1 r1.bh
        have r2 := r1.up u2
        rw [List.drop_eq_getElem_cons hl] at q1
        unfold forD at q1
        cases h3 : gf ds[i] ρ1 with
        | none => rw [h3] at q1; exact q1.elim
        | some ρ2 =>
          rw [h3] at q1
          dsimp only at q1
          refine hg.ok Fo B2 H2 ρ1 σ1 ds[i] x ρ2 _ r2 hx h3 fun σ3 r3 _ _ => ?_
          refine hb.ok Fo B2 H2 ρ2 σ3 _ r3 ?_
          cases h4 : gb ρ2 with
          | nx ρ3 =>
            rw [h4] at q1
            exact fun B' H' σ' s' r' => ⟨rfl, hl, B', ρ3, (s1.trans u2.b).trans s', r', SPost.next (u2.b.trans s') q1⟩
          | ct ρ3 =>
            rw [h4] at q1
            exact fun B' H' σ' s' r' => ⟨rfl, hl, B', ρ3, (s1.trans u2.b).trans s', r', SPost.next (u2.b.trans s') q1⟩
          | bk ρ3 =>
            rw [h4] at q1
            exact fun B' H' σ' s' r' => q1 B' H' σ' (u2.b.trans s') r'
          | rt d => rw [h4] at q1; exact SPost.next (o := .rt d) (D := { D with nx := _, ct := _, bk := D.nx }) u2.b q1
          | rn d => rw [h4] at q1; exact SPost.next (o := .rn d) (D := { D with nx := _, ct := _, bk := D.nx }) u2.b q1
          | er C ρ3 => rw [h4] at q1; exact SPost.next (o := .er C ρ3) (D := { D with nx := _, ct := _, bk := D.nx }) u2.b q1
          | no => rw [h4] at q1; exact q1
      · left
        rw [List.drop_eq_nil_of_le (by omega)] at q1
        exact ⟨w.stop i H1 (s1.trans r1.bh) (by omega), q1 B1 H1 σ1 (Same.refl _) r1⟩⟩
theorem vs_while (n : Nat) {c : Expr} {tc : TT} {gt : En → R Bool} (C : Ctx X W) (hc : VT X W c tc gt) (hb : VSs X W body tb gb) : VS X W (.While c body [] pos) (tWhile tc tb) (gWhile n gt gb) :=
  ⟨ps_while C.po hc.pe hb.ps, fun Fo B H ρ σ D r q => by
    refine ⟨fun m σ' H' => ∃ B' ρ', Same B B' ∧ RS X.K W.c Fo B' H' ρ' σ' ∧ SPost X.K W Fo B' (whileD gt gb m ρ') D, ⟨n, B, ρ, Same.refl _, r, q⟩, ?_⟩
    rintro m σ1 H1 ⟨B1, ρ1, s1, r1, q1⟩
    cases m with
    | zero => exact q1.elim
    | succ m =>
      unfold whileD at q1
      refine hc.ok Fo B1 H1 ρ1 σ1 _ r1 ?_
      cases h : gt ρ1 with
      | no => rw [h] at q1; exact q1
      | er C => rw [h] at q1; exact fun B' H' u => q1 B' H' σ1 u.b (r1.up u)
      | ok b =>
        rw [h] at q1
        intro B2 H2 u2
        have r2 := r1.up u2
        cases b with
        | false => exact iteF (q1 B2 H2 σ1 u2.b r2)
        | true =>
          refine iteT ⟨fun σ' H' => ∃ B' ρ', Same B B' ∧ RS X.K W.c Fo B' H' ρ' σ' ∧ SPost X.K W Fo B' (whileD gt gb m ρ') D, fun σ' H' hN => ⟨m, Nat.lt_succ_self m, hN⟩, ?_⟩
          refine hb.ok Fo B2 H2 ρ1 σ1 _ r2 ?_
          dsimp only at q1
          cases h4 : gb ρ1 with
          | nx ρ3 =>
            rw [h4] at q1
            exact fun B' H' σ' s' r' => ⟨B', ρ3, (s1.trans u2.b).trans s', r', SPost.next (u2.b.trans s') q1⟩
          | ct ρ3 =>
            rw [h4] at q1
            exact fun B' H' σ' s' r' => ⟨B', ρ3, (s1.trans u2.b).trans s', r', SPost.next (u2.b.trans s') q1⟩
          | bk ρ3 =>
            rw [h4] at q1
            exact fun B' H' σ' s' r' => q1 B' H' σ' (u2.b.trans s') r'
          | rt d => rw [h4] at q1; exact SPost.next (o := .rt d) (D := { D with nx := _, ct := _, bk := D.nx }) u2.b q1
          | rn d => rw [h4] at q1; exact SPost.next (o := .rn d) (D := { D with nx := _, ct := _, bk := D.nx }) u2.b q1
          | er C ρ3 => rw [h4] at q1; exact SPost.next (o := .er C ρ3) (D := { D with nx := _, ct := _, bk := D.nx }) u2.b q1
          | no => rw [h4] at q1; exact q1⟩

/-! ### comprehensions -/
abbrev W0 (c : Cs) : Ws := ⟨fun _ _ _ _ => False, c⟩
def wipeE (ρ : En) : List Nat → En
  | [] => ρ
  | v :: vs => (wipeE ρ vs).set v .un
theorem RS.wiped {K : PySem.W.Frag} {c : Cs} {Fo B H : Hp} {ρ : En} {σ : L2.St} (r : RS K c Fo B H ρ σ) : ∀ vs : List Nat, RS K c Fo B H (wipeE ρ vs) (wipe σ vs)
  | [] => r
  | v :: vs => (r.wiped vs).setU v none
def lcD (gf : D → En → Option En) (gt : En → R Bool) (ge : En → R D) (ρ0 : En) : List D → R (List D)
  | [] => .ok []
  | d :: ds => match gf d ρ0 with
    | none => .no
    | some ρ1 => match gt ρ1 with
      | .ok true => (match ge ρ1 with
        | .ok y => (lcD gf gt ge ρ0 ds).bind fun ys => .ok (y :: ys)
        | _ => .no)
      | .ok false => lcD gf gt ge ρ0 ds
      | _ => .no
def dLc (vs : List Nat) (fi : En → R (List D)) (gf : D → En → Option En) (gt : En → R Bool) (ge : En → R D) : En → R (List D) := fun ρ => (fi ρ).bind fun ds => if ds.length ≤ sizeLine then lcD gf gt ge (wipeE ρ vs) ds else .no
def dYes : En → R Bool := fun _ => .ok true
theorem lcD_len {gf : D → En → Option En} {gt : En → R Bool} {ge : En → R D} {ρ0 : En} : ∀ {ds ys : List D}, lcD gf gt ge ρ0 ds = .ok ys → ys.length ≤ ds.length
  | [], ys, h => by cases h; exact Nat.le_refl _
  | d :: ds, ys, h => by
    unfold lcD at h
    cases h1 : gf d ρ0 with
    | none => rw [h1] at h; cases h
    | some ρ1 =>
      rw [h1] at h
      dsimp only at h
      cases h2 : gt ρ1 with
      | no => rw [h2] at h; cases h
      | er C => rw [h2] at h; cases h
      | ok b =>
        rw [h2] at h
        cases b with
        | false => exact Nat.le_succ_of_le (lcD_len h)
        | true =>
          dsimp only at h
          cases h3 : ge ρ1 with
          | no => rw [h3] at h; cases h
          | er C => rw [h3] at h; cases h
          | ok y =>
            rw [h3] at h
            dsimp only at h
            cases h4 : lcD gf gt ge ρ0 ds with
            | no => rw [h4] at h; cases h
            | er C => rw [h4] at h; cases h
            | ok zs =>
              rw [h4, R.bind_ok] at h
              cases h
              exact Nat.succ_le_succ (lcD_len h4)
structure VTs (X : Cx) (W : Ws) (ifs : List Expr) (t : TT) (f : En → R Bool) : Prop where
  pe : PTs X ifs t
  ok : ∀ Fo B H ρ σ Q, RS X.K W.c Fo B H ρ σ → TPost W σ B H (f ρ) Q → t σ H Q
theorem vts_nil : VTs X W [] tYes dYes := ⟨pts_nil, fun Fo B H ρ σ Q r q => q B H r.same⟩
theorem vts_one {c : Expr} {t : TT} {f : En → R Bool} (h : VT X W c t f) : VTs X W [c] t f := ⟨pts_one h.pe, h.ok⟩
theorem tLc_ok {tt : TT} {te : TE} {gt : En → R Bool} {ge : En → R D} {vs : List Nat} {Q : VK}
    (hi : VIP X W tg iter wi fi) (hg : ∀ Fo B H ρ σ d v ρ' (Q : L2.St → Hp → Prop), RS X.K W.c Fo B H ρ σ → Rep X.K W.c B d v → gf d ρ = some ρ' → (∀ σ', RS X.K W.c Fo B H ρ' σ' → σ'.length = σ.length → (∀ j, j ∉ sl → σ'[j]? = σ[j]?) → Q σ' H) → g v σ H Q) (hsl : ∀ j ∈ sl, j ∈ vs)
    (ht : ∀ Fo B H ρ σ Q, RS X.K W.c Fo B H ρ σ → TPost (W0 W.c) σ B H (gt ρ) Q → tt σ H Q) (he : ∀ Fo B H ρ σ Q, RS X.K W.c Fo B H ρ σ → EPost X.K (W0 W.c) σ B H (ge ρ) Q → te σ H Q) {Fo B H ρ σ} (rs : RS X.K W.c Fo B H ρ σ) (q : NPost X.K W σ B H (dLc vs fi gf gt ge ρ) Q) : tLc wi g tt te vs σ H Q := by
  unfold dLc at q
  refine hi.ok Fo B H ρ σ _ rs ?_
  cases h : fi ρ with
  | no => rw [h] at q; exact q
  | er C => rw [h] at q; exact q
  | ok ds =>
    rw [h, R.bind_ok] at q
    intro J B0 H0 u w Dp hD
    by_cases hz : ds.length ≤ sizeLine
    case neg => rw [if_neg hz] at q; exact q.elim
    rw [if_pos hz] at q
    -- the list at D, apart
    have hD0 : B0 Dp = none := u.bh.free hD
    have ua : Up B0 H0 B0 (upd H0 Dp (.lst [])) := Up.apart u.bh hD
    -- behind i items: some done, the rest to come
    refine ⟨fun i m H' => m = ds.length - i ∧ i ≤ ds.length ∧ ∃ B' acc ws, H' Dp = some (.lst ws) ∧ RepL X.K W.c B' acc ws ∧ acc.length ≤ i ∧ Same B0 B' ∧ Same B' H' ∧ Same H0 H' ∧ (∀ a, H0 a ≠ none → B0 a = none → B' a = none) ∧ B' Dp = none ∧ RS X.K W.c Fo B' H' ρ σ ∧
      NPost X.K W σ B H ((lcD gf gt ge (wipeE ρ vs) (ds.drop i)).bind fun ys => .ok (acc ++ ys)) Q, ⟨ds.length, by simp, Nat.zero_le _, B0, [], [], upd_same, .nil, Nat.le_refl _, Same.refl _, ua.bh, ua.h, fun a h1 h2 => h2, hD0, (rs.up u).up ua, ?_⟩, ?_⟩
    · simp only [List.drop_zero, List.nil_append]
      cases h5 : lcD gf gt ge (wipeE ρ vs) ds with
      | ok ys => rw [h5] at q; exact q
      | er C => rw [h5] at q; exact q
      | no => rw [h5] at q; exact q
    rintro i m H1 ⟨rfl, hi', B1, acc, ws, hDp, hacc, hlen, s1, b1, h1, o1, n1, r1, q1⟩
    by_cases hl : i < ds.length
    · right
      have hd : ds[i]? = some ds[i] := List.getElem?_eq_getElem hl
      refine ⟨(w.go i H1 ds[i] h1 hd).1, _, fun H' hN => ⟨ds.length - (i + 1), by omega, rfl, hN⟩, fun x H2 y => ?_⟩
      obtain ⟨B2, u2, hx⟩ := (w.go i H1 ds[i] h1 hd).2 x H2 B1 y s1 b1
      have r2 := r1.up u2
      have hDp2 : H2 Dp = some (.lst ws) := u2.h _ _ hDp
      have n2 : B2 Dp = none := u2.out Dp (by rw [hDp]; exact fun z => nomatch z) n1
      have rw2 := r2.wiped vs
      rw [List.drop_eq_getElem_cons hl] at q1
      unfold lcD at q1
      cases h3 : gf ds[i] (wipeE ρ vs) with
      | none => rw [h3] at q1; exact q1.elim
      | some ρ2 =>
        rw [h3] at q1
        dsimp only at q1
        refine hg Fo B2 H2 (wipeE ρ vs) (wipe σ vs) ds[i] x ρ2 _ rw2 hx h3 fun σ3 r3 l3 k3 => ⟨?_, ?_⟩
        · have := wipe_eq l3 vs fun j hj => k3 j fun z => hj (hsl j z)
          rw [this, wipe_idem]
        · refine ht Fo B2 H2 ρ2 σ3 _ r3 ?_
          cases h4 : gt ρ2 with
          | no => rw [h4] at q1; exact q1.elim
          | er C => rw [h4] at q1; exact q1.elim
          | ok b =>
            rw [h4] at q1
            intro B3 H3 u3
            have u23 := u2.trans u3
            have o3 : ∀ a, H0 a ≠ none → B0 a = none → B3 a = none := fun a e1 e2 => u23.out a (VL.Same.some h1 e1) (o1 a e1 e2)
            cases b with
            | false =>
              refine iteF ⟨hl, B3, acc, ws, u23.h _ _ hDp, hacc.up u23.b, Nat.le_succ_of_le hlen, s1.trans u23.b, u3.bh, h1.trans u23.h, o3, u3.out Dp (by rw [hDp2]; exact fun z => nomatch z) n2, r2.up u3, q1⟩
            | true =>
              dsimp only at q1
              refine iteT (he Fo B3 H3 ρ2 σ3 _ (r3.up u3) ?_)
              cases h5 : ge ρ2 with
              | no => rw [h5] at q1; exact q1.elim
              | er C => rw [h5] at q1; exact q1.elim
              | ok y0 =>
                rw [h5] at q1
                dsimp only at q1
                intro v B4 H4 u4 hv
                have u24 := u23.trans u4
                have hDp4 : H4 Dp = some (.lst ws) := u24.h _ _ hDp
                have n4 : B4 Dp = none := u24.out Dp (by rw [hDp]; exact fun z => nomatch z) n1
                have hH0 : H0 Dp = none := hD
                have r4 : RS X.K W.c Fo B4 H4 ρ σ := (r2.up u3).up u4
                have wr : ∀ a o, a ≠ Dp → H4 a = some o → upd H4 Dp (.lst (ws ++ [v])) a = some o := fun a o n e => by rw [upd_ne n]; exact e
                have fo : Fo Dp = none := by
                  cases e : Fo Dp with
                  | none => rfl
                  | some o =>
                    have := rs.fh _ _ e
                    have z := u.h _ _ this
                    rw [hH0] at z
                    cases z
                refine ⟨ws, hDp4, ?_, hl, B4, acc ++ [y0], ws ++ [v], upd_same, (hacc.up u24.b).append (.cons hv .nil), ?_, s1.trans u24.b, fun a o e => wr a o (ne_of_none e n4) (u4.bh a o e), fun a o e => wr a o (ne_of_none e hH0) (u24.h _ _ (h1 a o e)),
                  fun a e1 e2 => u24.out a (VL.Same.some h1 e1) (o1 a e1 e2), n4, ?_, ?_⟩
                · rw [← hacc.length]
                  omega
                · rw [List.length_append]
                  exact Nat.add_le_add_right hlen 1
                · refine ⟨r4.len, fun a o e => wr a o (ne_of_none e n4) (r4.bh a o e), fun a o e => wr a o (ne_of_none e fo) (r4.fh a o e), r4.fb, r4.vals, fun j xs hj => ?_, r4.sep, fun j C xs hj => ?_, r4.sepb⟩
                  case refine_2 =>
                    obtain ⟨p2, dx, us, a1, a2, a3, a4, a5⟩ := r4.objs j C xs hj
                    refine ⟨p2, dx, us, a1, wr _ _ (fun z => ?_) a2, a3, a4, a5⟩
                    rw [z, hDp4] at a2
                    cases a2
                  obtain ⟨p2, us, a1, a2, a3, a4, a5⟩ := r4.owns j xs hj
                  refine ⟨p2, us, a1, wr _ _ ?_ a2, a3, a4, a5⟩
                  rintro rfl
                  -- the slot's list stood before D was laid
                  obtain ⟨p3, us3, c1, c2, _⟩ := rs.owns j xs hj
                  rw [a1] at c1
                  cases c1
                  have z := u.h _ _ c2
                  rw [hH0] at z
                  cases z
                · cases h6 : lcD gf gt ge (wipeE ρ vs) (List.drop (i + 1) ds) with
                  | no => rw [h6] at q1; exact q1.elim
                  | er C => rw [h6] at q1; exact q1
                  | ok ys =>
                    rw [h6] at q1
                    simp only [R.bind_ok, List.append_assoc, List.singleton_append] at q1 ⊢
                    exact q1
    · left
      rw [List.drop_eq_nil_of_le (by omega)] at q1
      unfold lcD at q1
      rw [R.bind_ok, List.append_nil] at q1
      refine ⟨w.stop i H1 h1 (by omega), ?_⟩
      exact q1 Dp ws B1 H1 ⟨u.b.trans s1, b1, u.h.trans h1, fun a e1 e2 => o1 a (VL.Same.some u.h e1) (u.out a e1 e2)⟩ n1 (u.h.free hD) hDp hacc
theorem vn_lc0 {elt : Expr} {ifs : List Expr} {scope : Scope} {tt : TT} {te : TE} {gt : En → R Bool} {ge : En → R D} (own : List (Str × Nat)) (hc : X.calm = true) (nd : X.N.Nodup) (hi : VIP X W tg iter wi fi) (ok : BlkOk X.N X.env.scope scope own)
    (hg : ∀ (s : Shared) (H : Hp) (C : Addr) (cl : List (Str × Addr)) (fp : List Addr), VG (X.blk s H scope (compEnvC scope cl C X.env) fp) W tg g gf sl)
    (ht : ∀ (s : Shared) (H : Hp) (C : Addr) (cl : List (Str × Addr)) (fp : List Addr), VTs (X.blk s H scope (compEnvC scope cl C X.env) fp) (W0 W.c) ifs tt gt)
    (he : ∀ (s : Shared) (H : Hp) (C : Addr) (cl : List (Str × Addr)) (fp : List Addr), VE (X.blk s H scope (compEnvC scope cl C X.env) fp) (W0 W.c) elt te ge)
    (hsl : ∀ j ∈ sl, j ∈ own.map (·.2) := by decide) (hs : ∀ x, foldedSetIterable iter X.env x = pure x := by intro _; rfl) :
    VN X W (.ListComp elt [⟨tg, iter, ifs, 0⟩] scope pos) (tLc wi g tt te (own.map (·.2))) (dLc (own.map (·.2)) fi gf gt ge) :=
  ⟨pe_lc hc nd hi.pi ok (fun s H C cl fp => (hg s H C cl fp).pg) (fun s H C cl fp => (ht s H C cl fp).pe) (fun s H C cl fp => (he s H C cl fp).pe) hs, fun Fo B H ρ σ Q rs q =>
    tLc_ok hi (hg X.s_0 X.H_0 0 [] []).ok hsl (ht X.s_0 X.H_0 0 [] []).ok (he X.s_0 X.H_0 0 [] []).ok rs q⟩
theorem vn_lc {elt : Expr} {ifs : List Expr} {scope : Scope} {g' : Shared → Hp → Addr → List (Str × Addr) → List Addr → TG} {tt' : Shared → Hp → Addr → List (Str × Addr) → List Addr → TT} {te' : Shared → Hp → Addr → List (Str × Addr) → List Addr → TE} {gt : En → R Bool} {ge : En → R D} (own : List (Str × Nat)) (hc : X.calm = true) (nd : X.N.Nodup) (hi : VIP X W tg iter wi fi) (ok : BlkOk X.N X.env.scope scope own)
    (hg : ∀ (s : Shared) (H : Hp) (C : Addr) (cl : List (Str × Addr)) (fp : List Addr), VG (X.blk s H scope (compEnvC scope cl C X.env) fp) W tg (g' s H C cl fp) gf sl)
    (ht : ∀ (s : Shared) (H : Hp) (C : Addr) (cl : List (Str × Addr)) (fp : List Addr), VTs (X.blk s H scope (compEnvC scope cl C X.env) fp) (W0 W.c) ifs (tt' s H C cl fp) gt)
    (he : ∀ (s : Shared) (H : Hp) (C : Addr) (cl : List (Str × Addr)) (fp : List Addr), VE (X.blk s H scope (compEnvC scope cl C X.env) fp) (W0 W.c) elt (te' s H C cl fp) ge)
    (eg : ∀ s H C cl fp, g' s H C cl fp = g' X.s_0 X.H_0 0 [] [] := by intro _ _ _ _ _; rfl) (et : ∀ s H C cl fp, tt' s H C cl fp = tt' X.s_0 X.H_0 0 [] [] := by intro _ _ _ _ _; rfl) (ee : ∀ s H C cl fp, te' s H C cl fp = te' X.s_0 X.H_0 0 [] [] := by intro _ _ _ _ _; rfl)
    (hsl : ∀ j ∈ sl, j ∈ own.map (·.2) := by decide) (hs : ∀ x, foldedSetIterable iter X.env x = pure x := by intro _; rfl) :
    VN X W (.ListComp elt [⟨tg, iter, ifs, 0⟩] scope pos) (tLc wi (g' X.s_0 X.H_0 0 [] []) (tt' X.s_0 X.H_0 0 [] []) (te' X.s_0 X.H_0 0 [] []) (own.map (·.2))) (dLc (own.map (·.2)) fi gf gt ge) :=
  vn_lc0 own hc nd hi ok (fun s H C cl fp => eg s H C cl fp ▸ hg s H C cl fp) (fun s H C cl fp => et s H C cl fp ▸ ht s H C cl fp) (fun s H C cl fp => ee s H C cl fp ▸ he s H C cl fp) hsl hs
theorem vs_setLc0 (i : Nat) {y : Str} {py spos : Pos} {elt : Expr} {ifs : List Expr} {scope : Scope} {tt : TT} {te : TE} {gt : En → R Bool} {ge : En → R D} (own : List (Str × Nat)) (hc : X.calm = true) (nd : X.N.Nodup) (hi : VIP X W tg iter wi fi) (ok : BlkOk X.N X.env.scope scope own)
    (hg : ∀ (s : Shared) (H : Hp) (C : Addr) (cl : List (Str × Addr)) (fp : List Addr), VG (X.blk s H scope (compEnvC scope cl C X.env) fp) W tg g gf sl)
    (ht : ∀ (s : Shared) (H : Hp) (C : Addr) (cl : List (Str × Addr)) (fp : List Addr), VTs (X.blk s H scope (compEnvC scope cl C X.env) fp) (W0 W.c) ifs tt gt)
    (he : ∀ (s : Shared) (H : Hp) (C : Addr) (cl : List (Str × Addr)) (fp : List Addr), VE (X.blk s H scope (compEnvC scope cl C X.env) fp) (W0 W.c) elt te ge)
    (hsw : swapsWith (.ListComp elt [⟨tg, iter, ifs, 0⟩] scope pos) (some (.Name y py)) spos.line X.env = pure true)
    (hy : X.N[i]? = some y := by rfl) (hyl : X.env.scope.names.lookup y = some .local := by rfl)
    (hsl : ∀ j ∈ sl, j ∈ own.map (·.2) := by decide) (hs : ∀ x, foldedSetIterable iter X.env x = pure x := by intro _; rfl) :
    VS X W (.Assign [.Name y py] (.ListComp elt [⟨tg, iter, ifs, 0⟩] scope pos) spos) (tAsg (tLc wi g tt te (own.map (·.2))) (gName i)) (gSetN i (dLc (own.map (·.2)) fi gf gt ge)) :=
  ⟨ps_setLc hc nd hy hyl hsw hi.pi ok (fun s H C cl fp => (hg s H C cl fp).pg) (fun s H C cl fp => (ht s H C cl fp).pe) (fun s H C cl fp => (he s H C cl fp).pe) hs, fun Fo B H ρ σ D rs q => by
    unfold gSetN gLet at q
    refine tLc_ok (W := W) hi (hg X.s_0 X.H_0 0 [] []).ok hsl (ht X.s_0 X.H_0 0 [] []).ok (he X.s_0 X.H_0 0 [] []).ok rs ?_
    cases h : dLc (own.map (·.2)) fi gf gt ge ρ with
    | no => rw [h] at q; exact q
    | er C => rw [h] at q; exact fun B' H' u => q B' H' σ u.b (rs.up u)
    | ok d => rw [h] at q; exact fun p vs B' H' u n1 n2 hp hv => q B' H' _ u.b ((rs.up u).setO i hp hv n1 (rs.fh.free n2) fun j xs _ e1 => new_own rs n2 j xs e1)⟩
theorem vs_setLc (i : Nat) {y : Str} {py spos : Pos} {elt : Expr} {ifs : List Expr} {scope : Scope} {g' : Shared → Hp → Addr → List (Str × Addr) → List Addr → TG} {tt' : Shared → Hp → Addr → List (Str × Addr) → List Addr → TT} {te' : Shared → Hp → Addr → List (Str × Addr) → List Addr → TE} {gt : En → R Bool} {ge : En → R D} (own : List (Str × Nat)) (hc : X.calm = true) (nd : X.N.Nodup) (hi : VIP X W tg iter wi fi) (ok : BlkOk X.N X.env.scope scope own)
    (hg : ∀ (s : Shared) (H : Hp) (C : Addr) (cl : List (Str × Addr)) (fp : List Addr), VG (X.blk s H scope (compEnvC scope cl C X.env) fp) W tg (g' s H C cl fp) gf sl)
    (ht : ∀ (s : Shared) (H : Hp) (C : Addr) (cl : List (Str × Addr)) (fp : List Addr), VTs (X.blk s H scope (compEnvC scope cl C X.env) fp) (W0 W.c) ifs (tt' s H C cl fp) gt)
    (he : ∀ (s : Shared) (H : Hp) (C : Addr) (cl : List (Str × Addr)) (fp : List Addr), VE (X.blk s H scope (compEnvC scope cl C X.env) fp) (W0 W.c) elt (te' s H C cl fp) ge)
    (hsw : swapsWith (.ListComp elt [⟨tg, iter, ifs, 0⟩] scope pos) (some (.Name y py)) spos.line X.env = pure true)
    (hy : X.N[i]? = some y := by rfl) (hyl : X.env.scope.names.lookup y = some .local := by rfl)
    (eg : ∀ s H C cl fp, g' s H C cl fp = g' X.s_0 X.H_0 0 [] [] := by intro _ _ _ _ _; rfl) (et : ∀ s H C cl fp, tt' s H C cl fp = tt' X.s_0 X.H_0 0 [] [] := by intro _ _ _ _ _; rfl) (ee : ∀ s H C cl fp, te' s H C cl fp = te' X.s_0 X.H_0 0 [] [] := by intro _ _ _ _ _; rfl)
    (hsl : ∀ j ∈ sl, j ∈ own.map (·.2) := by decide) (hs : ∀ x, foldedSetIterable iter X.env x = pure x := by intro _; rfl) :
    VS X W (.Assign [.Name y py] (.ListComp elt [⟨tg, iter, ifs, 0⟩] scope pos) spos) (tAsg (tLc wi (g' X.s_0 X.H_0 0 [] []) (tt' X.s_0 X.H_0 0 [] []) (te' X.s_0 X.H_0 0 [] []) (own.map (·.2))) (gName i)) (gSetN i (dLc (own.map (·.2)) fi gf gt ge)) :=
  vs_setLc0 i own hc nd hi ok (fun s H C cl fp => eg s H C cl fp ▸ hg s H C cl fp) (fun s H C cl fp => et s H C cl fp ▸ ht s H C cl fp) (fun s H C cl fp => ee s H C cl fp ▸ he s H C cl fp) hsw hy hyl hsl hs
end

/-! ### a def's whole -/
def finV : Out → R D
  | .nx _ => .ok .non
  | .rt d => .ok d
  | .rn ds => .ok (.lst ds)
  | .er C _ => .er C
  | _ => .no
def finN : Out → R (List D)
  | .rn ds => .ok ds
  | .er C _ => .er C
  | _ => .no
def startE (n : Nat) (ds : List D) : En := ds.map .v ++ List.replicate (n - ds.length) .un
def fnV (n : Nat) (g : En → Out) : List D → R D := fun ds => finV (g (startE n ds))
def fnN (n : Nat) (g : En → Out) : List D → R (List D) := fun ds => finN (g (startE n ds))
section
variable {P : Program} {w : World} {K : PySem.W.Frag} {c : Cs} {mg : Str → Option Value} {base : Heap}
def apart (B H : Hp) : Hp := fun a => if (B a).isSome then none else H a
theorem apart_sub {B H : Hp} : Same (apart B H) H := fun a o e => by
  unfold apart at e
  split at e
  · cases e
  · exact e
theorem apart_b {B H : Hp} : ∀ a, apart B H a ≠ none → B a = none := fun a e => by
  unfold apart at e
  cases h : B a with
  | none => rfl
  | some o => rw [h] at e; exact absurd rfl e
theorem apart_none {B H : Hp} {a : Addr} (h : apart B H a = none) (h2 : B a = none) : H a = none := by
  unfold apart at h
  rw [h2] at h
  exact h
theorem start_rs {B H : Hp} {N : List Str} {ds : List D} {vs : List V} (s : Same B H) (r : RepL K c B ds vs) (hl : ds.length ≤ N.length) : RS K c (apart B H) B H (startE N.length ds) (L2.start N vs) where
  len := by
    unfold startE L2.start
    simp [r.length]
  bh := s
  fh := apart_sub
  fb := apart_b
  vals := fun i d e => by
    unfold startE at e
    unfold L2.start
    by_cases h : i < ds.length
    · rw [List.getElem?_append_left (by simpa using h), List.getElem?_map] at e
      rw [List.getElem?_append_left (by simp [← r.length]; exact h), List.getElem?_map]
      cases h2 : ds[i]? with
      | none => rw [h2] at e; cases e
      | some d2 =>
        rw [h2] at e
        cases e
        obtain ⟨v, hv, hr⟩ := r.get h2
        rw [hv]
        exact ⟨v, rfl, hr⟩
    · rw [List.getElem?_append_right (by simp; omega), List.getElem?_replicate] at e
      split at e <;> cases e
  owns := fun i d e => by
    unfold startE at e
    by_cases h : i < ds.length
    · rw [List.getElem?_append_left (by simpa using h), List.getElem?_map] at e
      cases h2 : ds[i]? with
      | none => rw [h2] at e; cases e
      | some d2 => rw [h2] at e; cases e
    · rw [List.getElem?_append_right (by simp; omega), List.getElem?_replicate] at e
      split at e <;> cases e
  sep := fun i j p xs ys _ e => by
    unfold startE at e
    by_cases h : i < ds.length
    · rw [List.getElem?_append_left (by simpa using h), List.getElem?_map] at e
      cases h2 : ds[i]? with
      | none => rw [h2] at e; cases e
      | some d2 => rw [h2] at e; cases e
    · rw [List.getElem?_append_right (by simp; omega), List.getElem?_replicate] at e
      split at e <;> cases e
  objs := fun i C d e => by
    unfold startE at e
    by_cases h : i < ds.length
    · rw [List.getElem?_append_left (by simpa using h), List.getElem?_map] at e
      cases h2 : ds[i]? with
      | none => rw [h2] at e; cases e
      | some d2 => rw [h2] at e; cases e
    · rw [List.getElem?_append_right (by simp; omega), List.getElem?_replicate] at e
      split at e <;> cases e
  sepb := fun i j p C C' xs ys _ e => by
    unfold startE at e
    by_cases h : i < ds.length
    · rw [List.getElem?_append_left (by simpa using h), List.getElem?_map] at e
      cases h2 : ds[i]? with
      | none => rw [h2] at e; cases e
      | some d2 => rw [h2] at e; cases e
    · rw [List.getElem?_append_right (by simp; omega), List.getElem?_replicate] at e
      split at e <;> cases e
theorem up_of {B H B' H' : Hp} (s0 : Same B H) (s : Same B B') (bh : Same B' H') (fh : Same (apart B H) H') (fb : ∀ a, apart B H a ≠ none → B' a = none) : Up B H B' H' where
  b := s
  bh := bh
  h := fun a o e => by
    cases h : B a with
    | some u =>
      have h2 := s0 a u h
      rw [e] at h2
      cases h2
      exact bh a o (s a o h)
    | none => exact fh a o (by unfold apart; rw [h]; exact e)
  out := fun a e n => fb a (by unfold apart; rw [n]; exact e)
abbrev WF (c : Cs) (E : XK) : Ws := ⟨fun cls d _ H => E cls d H, c⟩
theorem ctx_of {N : List Str} {qual : Str} {sc : Scope} {f : Addr} {cd : Value} {A : Around} {outer : List Env} {s : Shared} {H : Hp} {E : XK} (hN : N.Nodup) : Ctx (cxOf (L2.CX P w) P w K mg base N qual sc f cd A outer s H E) (WF c E) where
  tk := takes_of rfl rfl rfl rfl
  po := passes_of rfl
  calm := rfl
  hs := rfl
  hf := rfl
  nd := hN
theorem fn_ok {x qual : Str} {st : Stmt} {f : Addr} {fd : FuncData} {N ps : List Str} {k : Nat} (n np : Nat) (g : En → Out) (F : Fun K x qual st f fd) (S : FnScope N ps (defScope st)) (hn : N.length = n) (hnp : ps.length = np) (hp : np ≤ n)
    (hb : ∀ (cdv : Value) (A : Around) (outer : List Env) (s : Shared) (H : Hp) (E : XK), Room k (A.deeper (envOfC qual (defScope st) s.heap.objs.size f cdv)) → Ctx (cxOf (L2.CX P w) P w K mg base N qual (defScope st) f cdv A outer s H E) (WF c E) →
      ∃ t, VSs (cxOf (L2.CX P w) P w K mg base N qual (defScope st) f cdv A outer s H E) (WF c E) (defBody st) t g) : FnOk P w K mg base (L2.CX P w) (k + 1) f fd ps (spV K c np (fnV n g)) := by
  subst hn hnp
  refine F.okX S (fun vs H Q E h => ?_) (fun cdv A outer s H vs Q E hr h => ?_)
  · obtain ⟨B, ds, _, r, hl, _⟩ := h
    rw [← r.length, hl]
  · obtain ⟨B, ds, sb, r, hl, q⟩ := h
    obtain ⟨t, V⟩ := hb cdv A outer s H E hr (ctx_of S.nd)
    refine ⟨t, V.ps, V.ok (apart B H) B H (startE N.length ds) _ _ (start_rs sb r (by rw [hl]; exact hp)) ?_⟩
    unfold fnV finV at q
    cases h : g (startE N.length ds) with
    | nx ρ => rw [h] at q; exact fun B' H' σ' s r' => q .non B' H' (up_of sb s r'.bh r'.fh r'.fb) .non
    | bk ρ => rw [h] at q; exact q.elim
    | ct ρ => rw [h] at q; exact q.elim
    | rt d => rw [h] at q; exact fun B' H' v s b f fb hv => q v B' H' (up_of sb s b f fb) hv
    | rn d =>
      rw [h] at q
      intro B' H' p vs' s b f fb n1 n2 hp' hv
      have u := up_of sb s b f fb
      have hn : H p = none := by
        have : B p = none := by
          cases e : B p with
          | none => rfl
          | some o => rw [s p o e] at n1; cases n1
        exact apart_none n2 this
      exact q (.ref p) (upd B' p (.lst vs')) H' (u.share hn hp' n1) (.lst upd_same (hv.up fun a o e => by rw [upd_ne (ne_of_none e n1)]; exact e))
    | er C ρ => rw [h] at q; exact fun B' H' σ' s r' => q B' H' (up_of sb s r'.bh r'.fh r'.fb)
    | no => rw [h] at q; exact q.elim
theorem fn_okN {x qual : Str} {st : Stmt} {f : Addr} {fd : FuncData} {N ps : List Str} {k : Nat} (n np : Nat) (g : En → Out) (F : Fun K x qual st f fd) (S : FnScope N ps (defScope st)) (hn : N.length = n) (hnp : ps.length = np) (hp : np ≤ n)
    (hb : ∀ (cdv : Value) (A : Around) (outer : List Env) (s : Shared) (H : Hp) (E : XK), Room k (A.deeper (envOfC qual (defScope st) s.heap.objs.size f cdv)) → Ctx (cxOf (L2.CX P w) P w K mg base N qual (defScope st) f cdv A outer s H E) (WF c E) →
      ∃ t, VSs (cxOf (L2.CX P w) P w K mg base N qual (defScope st) f cdv A outer s H E) (WF c E) (defBody st) t g) : FnOk P w K mg base (L2.CX P w) (k + 1) f fd ps (spN K c np (fnN n g)) := by
  subst hn hnp
  refine F.okX S (fun vs H Q E h => ?_) (fun cdv A outer s H vs Q E hr h => ?_)
  · obtain ⟨B, ds, _, r, hl, _⟩ := h
    rw [← r.length, hl]
  · obtain ⟨B, ds, sb, r, hl, q⟩ := h
    obtain ⟨t, V⟩ := hb cdv A outer s H E hr (ctx_of S.nd)
    refine ⟨t, V.ps, V.ok (apart B H) B H (startE N.length ds) _ _ (start_rs sb r (by rw [hl]; exact hp)) ?_⟩
    unfold fnN finN at q
    cases h : g (startE N.length ds) with
    | nx ρ => rw [h] at q; exact q.elim
    | bk ρ => rw [h] at q; exact q.elim
    | ct ρ => rw [h] at q; exact q.elim
    | rt d => rw [h] at q; exact q.elim
    | rn d =>
      rw [h] at q
      intro B' H' p vs' s b f fb n1 n2 hp' hv
      have u := up_of sb s b f fb
      have hn : H p = none := by
        have : B p = none := by
          cases e : B p with
          | none => rfl
          | some o => rw [s p o e] at n1; cases n1
        exact apart_none n2 this
      exact q p vs' B' H' u n1 hn hp' hv
    | er C ρ => rw [h] at q; exact fun B' H' σ' s r' => q B' H' (up_of sb s r'.bh r'.fh r'.fb)
    | no => rw [h] at q; exact q.elim
end
end VL
set_option maxRecDepth 100000
set_option maxHeartbeats 4000000
namespace VL
open PySem PySem.Spec PyProof.Rows L2

section
variable {K : PySem.W.Frag} {c : Cs} {B H : Hp}
theorem repT_int {i : Int} {v : V} (h : RepT K c B H (.int i) v) : v = .int i := by
  rcases h with h | ⟨_, _, _, e, _⟩
  · cases h; rfl
  · cases e
theorem repT_bl {i : Bool} {v : V} (h : RepT K c B H (.bl i) v) : v = .bl i := by
  rcases h with h | ⟨_, _, _, e, _⟩
  · cases h; rfl
  · cases e
theorem repT_str {i : Str} {v : V} (h : RepT K c B H (.str i) v) : v = .str i := by
  rcases h with h | ⟨_, _, _, e, _⟩
  · cases h; rfl
  · cases e
theorem repT_non {v : V} (h : RepT K c B H .non v) : v = .non := by
  rcases h with h | ⟨_, _, _, e, _⟩
  · cases h; rfl
  · cases e
theorem repT_ty {n : String} {v : V} (h : RepT K c B H (.ty n) v) : v = .ty n := by
  rcases h with h | ⟨_, _, _, e, _⟩
  · cases h; rfl
  · cases e
theorem repT_ref {n : Addr} {v : V} (h : RepT K c B H (.ref n) v) : v = .ref n := by
  rcases h with h | ⟨_, _, _, e, _⟩
  · cases h; rfl
  · cases e
theorem repT_tup {xs : List D} {v : V} (s : Same B H) (h : RepT K c B H (.tup xs) v) : ∃ a vs, v = .ref a ∧ H a = some (.tup vs) ∧ RepL K c B xs vs := by
  rcases h with h | ⟨_, _, _, e, _⟩
  · cases h with
    | tup h1 h2 => exact ⟨_, _, rfl, s _ _ h1, h2⟩
  · cases e
theorem repT_ct {xs : List D} {v : V} (s : Same B H) (h : RepT K c B H (.ct xs) v) : ∃ a vs, v = .ref a ∧ SqT K H a vs ∧ RepL K c B xs vs := by
  rcases h with h | ⟨_, _, _, e, _⟩
  · cases h with
    | ct h1 h2 => exact ⟨_, _, rfl, VL.SqT.up s h1, h2⟩
  · cases e
theorem repT_ro {xs : List D} {v : V} (s : Same B H) (h : RepT K c B H (.ro xs) v) : ∃ a vs, v = .ref a ∧ SqL K H a vs ∧ RepL K c B xs vs := by
  rcases h with h | ⟨_, _, _, e, _⟩
  · cases h with
    | ro h1 h2 => exact ⟨_, _, rfl, s.seq h1, h2⟩
  · cases e
/-- the items of anything listed -/
def items : D → Option (List D)
  | .lst xs => some xs
  | .ro xs => some xs
  | .tup xs => some xs
  | .ct xs => some xs
  | _ => none
theorem repT_items {d : D} {xs : List D} {v : V} (s : Same B H) (h : RepT K c B H d v) (e : items d = some xs) : ∃ a vs, v = .ref a ∧ (SqL K H a vs ∨ SqT K H a vs) ∧ RepL K c B xs vs := by
  cases d <;> simp only [items, Option.some.injEq] at e <;> try cases e
  · obtain ⟨a, vs, h1, h2, h3⟩ := repT_lst s h
    exact ⟨a, vs, h1, .inl (SqL.of h2), h3⟩
  · obtain ⟨a, vs, h1, h2, h3⟩ := repT_tup s h
    exact ⟨a, vs, h1, .inr (SqT.of h2), h3⟩
  · obtain ⟨a, vs, h1, h2, h3⟩ := repT_ro s h
    exact ⟨a, vs, h1, .inl h2, h3⟩
  · obtain ⟨a, vs, h1, h2, h3⟩ := repT_ct s h
    exact ⟨a, vs, h1, .inr h2, h3⟩

/-! ### ints -/
def gI (C : Int → Int → Prop) [∀ i j, Decidable (C i j)] (g : Int → Int → Int) : D → D → Option D := fun x y => match x, y with
  | .int i, .int j => if C i j then some (.int (g i j)) else none
  | _, _ => none
def gI0 (g : Int → Int → D) : D → D → Option D := fun x y => match x, y with
  | .int i, .int j => some (g i j)
  | _, _ => none
theorem gI_ok {C : Int → Int → Prop} [∀ i j, Decidable (C i j)] {g : Int → Int → Int} : R2Ok K c (rI C fun i j => .int (g i j)) (gI C g) := fun B H x y v w Q d s hx hy e q => by
  unfold gI at e
  split at e
  · rename_i i j
    by_cases hc : C i j
    · rw [if_pos hc] at e
      cases e
      exact ⟨i, j, repT_int hx, repT_int hy, hc, q _ B H (Up.refl s) (.int _)⟩
    · rw [if_neg hc] at e
      cases e
  · cases e
theorem gI0_int {g : Int → Int → Int} : R2Ok K c (rI0 fun i j => .int (g i j)) (gI0 fun i j => .int (g i j)) := fun B H x y v w Q d s hx hy e q => by
  unfold gI0 at e
  split at e
  · rename_i i j
    cases e
    exact ⟨i, j, repT_int hx, repT_int hy, q _ B H (Up.refl s) (.int _)⟩
  · cases e
theorem gI0_bl {g : Int → Int → Bool} : R2Ok K c (rI0 fun i j => .bl (g i j)) (gI0 fun i j => .bl (g i j)) := fun B H x y v w Q d s hx hy e q => by
  unfold gI0 at e
  split at e
  · rename_i i j
    cases e
    exact ⟨i, j, repT_int hx, repT_int hy, q _ B H (Up.refl s) (.bl _)⟩
  · cases e

/-! ### + : ints, lists, texts -/
def rAddU : R2 := fun x y H Q => (rI0 fun i j => .int (i + j)) x y H Q ∨ rCat x y H Q ∨ (fun x y H Q => ∃ i j, x = .str i ∧ y = .str j ∧ i.length + j.length ≤ sizeLine ∧ Q (.str (i ++ j)) H : R2) x y H Q
theorem op_addU {X : Cx} : OpR X (binaryOp .Add) rAddU := op_add.or (op_cat.or op_add_str)
def gAdd : D → D → Option D := fun x y => match x, y with
  | .int i, .int j => some (.int (i + j))
  | .lst xs, .lst ys => if xs.length + ys.length ≤ sizeLine then some (.lst (xs ++ ys)) else none
  | .str s, .str t => if s.length + t.length ≤ sizeLine then some (.str (s ++ t)) else none
  | _, _ => none
theorem gAdd_ok : R2Ok K c rAddU gAdd := fun B H x y v w Q d s hx hy e q => by
  unfold gAdd at e
  split at e
  · rename_i i j
    cases e
    exact .inl ⟨i, j, repT_int hx, repT_int hy, q _ B H (Up.refl s) (.int _)⟩
  · rename_i xs ys
    by_cases hl : xs.length + ys.length ≤ sizeLine
    · rw [if_pos hl] at e
      cases e
      obtain ⟨a, vs, rfl, h1, h2⟩ := repT_lst s hx
      obtain ⟨b, ws, rfl, h3, h4⟩ := repT_lst s hy
      refine .inr (.inl ⟨a, b, vs, ws, rfl, rfl, h1, h3, by rw [← h2.length, ← h4.length]; exact hl, fun p hp => ?_⟩)
      have u := Up.new (o := .lst (vs ++ ws)) s hp
      exact q _ _ _ u (.lst upd_same ((h2.append h4).up u.b))
    · rw [if_neg hl] at e
      cases e
  · rename_i a b
    by_cases hl : a.length + b.length ≤ sizeLine
    · rw [if_pos hl] at e
      cases e
      exact .inr (.inr ⟨a, b, repT_str hx, repT_str hy, hl, q _ B H (Up.refl s) (.str _)⟩)
    · rw [if_neg hl] at e
      cases e
  · cases e
def gCat : D → D → Option (List D) := fun x y => match x, y with
  | .lst xs, .lst ys => if xs.length + ys.length ≤ sizeLine then some (xs ++ ys) else none
  | _, _ => none
theorem gCat_ok : R2N K c rCat gCat := fun B H x y v w Q d s hx hy e q => by
  unfold gCat at e
  split at e
  · rename_i xs ys
    by_cases hl : xs.length + ys.length ≤ sizeLine
    · rw [if_pos hl] at e
      cases e
      obtain ⟨a, vs, rfl, h1, h2⟩ := repT_lst s hx
      obtain ⟨b, ws, rfl, h3, h4⟩ := repT_lst s hy
      refine ⟨a, b, vs, ws, rfl, rfl, h1, h3, by rw [← h2.length, ← h4.length]; exact hl, fun p hp => ?_⟩
      exact q p _ B _ (Up.apart s hp) (s.free hp) hp upd_same (h2.append h4)
    · rw [if_neg hl] at e
      cases e
  · cases e
/-! ### * : ints, a list by an int -/
def CMulU (i j : Int) : Prop := ((-(2 ^ 64) < i ∧ i < 2 ^ 64) ∨ (-(2 ^ 64) < j ∧ j < 2 ^ 64)) ∨ i.natAbs.log2 + j.natAbs.log2 < 1000000
instance : ∀ i j, Decidable (CMulU i j) := fun i j => by unfold CMulU; infer_instance
theorem op_mulU' {X : Cx} : OpR X (binaryOp .Mult) (rI CMulU fun i j => .int (i * j)) := fun pins s σ H x y v u Q I rx ry h => by
  obtain ⟨i, j, e1, e2, hc, q⟩ := h
  rcases hc with hc | hc
  · exact op_mul pins s σ H x y v u Q I rx ry ⟨i, j, e1, e2, hc, q⟩
  · exact op_mulW pins s σ H x y v u Q I rx ry ⟨i, j, e1, e2, hc, q⟩
def rMulU : R2 := fun x y H Q => (rI CMulU fun i j => .int (i * j)) x y H Q ∨ rRep x y H Q
theorem op_mulU {X : Cx} : OpR X (binaryOp .Mult) rMulU := op_mulU'.or op_rep
def gMul : D → D → Option D := fun x y => match x, y with
  | .int i, .int j => if CMulU i j then some (.int (i * j)) else none
  | .lst xs, .int k => if -(2 ^ 63) ≤ k ∧ k < 2 ^ 63 ∧ xs.length * k.toNat ≤ sizeLine then some (.lst (List.replicate k.toNat xs).flatten) else none
  | _, _ => none
theorem gMul_ok : R2Ok K c rMulU gMul := fun B H x y v w Q d s hx hy e q => by
  unfold gMul at e
  split at e
  · rename_i i j
    by_cases hc : CMulU i j
    · rw [if_pos hc] at e
      cases e
      exact .inl ⟨i, j, repT_int hx, repT_int hy, hc, q _ B H (Up.refl s) (.int _)⟩
    · rw [if_neg hc] at e
      cases e
  · rename_i xs k
    by_cases hl : -(2 ^ 63) ≤ k ∧ k < 2 ^ 63 ∧ xs.length * k.toNat ≤ sizeLine
    · rw [if_pos hl] at e
      cases e
      obtain ⟨a, vs, rfl, h1, h2⟩ := repT_lst s hx
      refine .inr ⟨a, k, vs, rfl, repT_int hy, h1, hl.1, hl.2.1, by rw [← h2.length]; exact hl.2.2, fun p hp => ?_⟩
      have u := Up.new (o := .lst (List.replicate k.toNat vs).flatten) s hp
      exact q _ _ _ u (.lst upd_same ((h2.rep _).up u.b))
    · rw [if_neg hl] at e
      cases e
  · cases e
def gRepN : D → D → Option (List D) := fun x y => match x, y with
  | .lst xs, .int k => if -(2 ^ 63) ≤ k ∧ k < 2 ^ 63 ∧ xs.length * k.toNat ≤ sizeLine then some (List.replicate k.toNat xs).flatten else none
  | _, _ => none
theorem gRepN_ok : R2N K c rRep gRepN := fun B H x y v w Q d s hx hy e q => by
  unfold gRepN at e
  split at e
  · rename_i xs k
    by_cases hl : -(2 ^ 63) ≤ k ∧ k < 2 ^ 63 ∧ xs.length * k.toNat ≤ sizeLine
    · rw [if_pos hl] at e
      cases e
      obtain ⟨a, vs, rfl, h1, h2⟩ := repT_lst s hx
      refine ⟨a, k, vs, rfl, repT_int hy, h1, hl.1, hl.2.1, by rw [← h2.length]; exact hl.2.2, fun p hp => ?_⟩
      exact q p _ B _ (Up.apart s hp) (s.free hp) hp upd_same (h2.rep _)
    · rw [if_neg hl] at e
      cases e
  · cases e
/-! ### the other operators of ints -/
instance : ∀ i j, Decidable (CDivW i j) := fun i j => by unfold CDivW; infer_instance
instance : ∀ i j, Decidable (CPow i j) := fun i j => by unfold CPow; infer_instance
def gSub := gI0 fun i j => .int (i - j)
def gFDiv := gI CDivW fun i j => i / j
def gMod := gI (fun _ j => 0 < j) fun i j => i % j
def gPow := gI CPow fun i j => i ^ j.toNat
def gShl := gI CPow fun i j => i * 2 ^ j.toNat
def gShr := gI (fun _ j => 0 ≤ j) fun i j => i / 2 ^ j.toNat
def gAnd := gI0 fun i j => .int (Builtin.bitAnd i j)
def gOr := gI0 fun i j => .int (Builtin.bitOr i j)
def gXor := gI0 fun i j => .int (Builtin.bitXor i j)
abbrev rSubI : R2 := rI0 fun i j => .int (i - j)
abbrev rFDivI : R2 := rI CDivW fun i j => .int (i / j)
abbrev rModI : R2 := rI (fun _ j => 0 < j) fun i j => .int (i % j)
abbrev rPowI : R2 := rI CPow fun i j => .int (i ^ j.toNat)
abbrev rShlI : R2 := rI CPow fun i j => .int (i * 2 ^ j.toNat)
abbrev rShrI : R2 := rI (fun _ j => 0 ≤ j) fun i j => .int (i / 2 ^ j.toNat)
abbrev rAndI : R2 := rI0 fun i j => .int (Builtin.bitAnd i j)
abbrev rOrI : R2 := rI0 fun i j => .int (Builtin.bitOr i j)
abbrev rXorI : R2 := rI0 fun i j => .int (Builtin.bitXor i j)
def gLt := gI0 fun i j => .bl (decide (i < j))
def gLe := gI0 fun i j => .bl (decide (i ≤ j))
def gGt := gI0 fun i j => .bl (decide (j < i))
def gGe := gI0 fun i j => .bl (decide (j ≤ i))
section
variable {X : Cx} {W : Ws} {a b : Expr} {ta tb : TE} {fa fb : En → R D} {pos : Pos}
theorem ve_add (ha : VP X W a ta fa) (hb : VP X W b tb fb) : VE X W (.BinOp a .Add b pos) (tOp rAddU ta tb) (dBin gAdd fa fb) := ve_op op_addU gAdd_ok ha hb
theorem vn_cat (ha : VP X W a ta fa) (hb : VP X W b tb fb) : VN X W (.BinOp a .Add b pos) (tOp rCat ta tb) (dBinN gCat fa fb) := vn_op op_cat gCat_ok ha hb
theorem ve_mul (ha : VP X W a ta fa) (hb : VP X W b tb fb) : VE X W (.BinOp a .Mult b pos) (tOp rMulU ta tb) (dBin gMul fa fb) := ve_op op_mulU gMul_ok ha hb
theorem vn_rep (ha : VP X W a ta fa) (hb : VP X W b tb fb) : VN X W (.BinOp a .Mult b pos) (tOp rRep ta tb) (dBinN gRepN fa fb) := vn_op op_rep gRepN_ok ha hb
theorem ve_sub (ha : VP X W a ta fa) (hb : VP X W b tb fb) : VE X W (.BinOp a .Sub b pos) (tOp rSubI ta tb) (dBin gSub fa fb) := ve_op op_sub gI0_int ha hb
theorem ve_fdiv (ha : VP X W a ta fa) (hb : VP X W b tb fb) : VE X W (.BinOp a .FloorDiv b pos) (tOp rFDivI ta tb) (dBin gFDiv fa fb) := ve_op op_fdivW gI_ok ha hb
theorem ve_mod (ha : VP X W a ta fa) (hb : VP X W b tb fb) : VE X W (.BinOp a .Mod b pos) (tOp rModI ta tb) (dBin gMod fa fb) := ve_op op_mod gI_ok ha hb
theorem ve_pow (ha : VP X W a ta fa) (hb : VP X W b tb fb) : VE X W (.BinOp a .Pow b pos) (tOp rPowI ta tb) (dBin gPow fa fb) := ve_op op_pow gI_ok ha hb
theorem ve_shl (ha : VP X W a ta fa) (hb : VP X W b tb fb) : VE X W (.BinOp a .LShift b pos) (tOp rShlI ta tb) (dBin gShl fa fb) := ve_op op_shl gI_ok ha hb
theorem ve_shr (ha : VP X W a ta fa) (hb : VP X W b tb fb) : VE X W (.BinOp a .RShift b pos) (tOp rShrI ta tb) (dBin gShr fa fb) := ve_op op_shr gI_ok ha hb
theorem ve_band (ha : VP X W a ta fa) (hb : VP X W b tb fb) : VE X W (.BinOp a .BitAnd b pos) (tOp rAndI ta tb) (dBin gAnd fa fb) := ve_op op_and gI0_int ha hb
theorem ve_bor (ha : VP X W a ta fa) (hb : VP X W b tb fb) : VE X W (.BinOp a .BitOr b pos) (tOp rOrI ta tb) (dBin gOr fa fb) := ve_op op_or gI0_int ha hb
theorem ve_bxor (ha : VP X W a ta fa) (hb : VP X W b tb fb) : VE X W (.BinOp a .BitXor b pos) (tOp rXorI ta tb) (dBin gXor fa fb) := ve_op op_xor gI0_int ha hb
end
def gNeg : D → Option D := fun x => match x with
  | .int i => some (.int (-i))
  | _ => none
def gInv : D → Option D := fun x => match x with
  | .int i => some (.int (Builtin.bitNot i))
  | _ => none
theorem gNeg_ok : R1Ok K c (rU fun i => .int (-i)) gNeg := fun B H x v Q d s hx e q => by
  unfold gNeg at e
  split at e
  · cases e; exact ⟨_, repT_int hx, q _ B H (Up.refl s) (.int _)⟩
  · cases e
theorem gInv_ok : R1Ok K c (rU fun i => .int (Builtin.bitNot i)) gInv := fun B H x v Q d s hx e q => by
  unfold gInv at e
  split at e
  · cases e; exact ⟨_, repT_int hx, q _ B H (Up.refl s) (.int _)⟩
  · cases e

/-! ### == -/
mutual
def toPD : D → Option PyData
  | .non => some .none
  | .bl b => some (.bool b)
  | .int i => some (.int i)
  | .str s => some (.str s)
  | .lst xs => (toPDL xs).map .list
  | .ro xs => (toPDL xs).map .list
  | .tup xs => (toPDL xs).map .tuple
  | .ct xs => (toPDL xs).map .tuple
  | _ => none
def toPDL : List D → Option (List PyData)
  | [] => some []
  | d :: ds => match toPD d, toPDL ds with
    | some p, some ps => some (p :: ps)
    | _, _ => none
end
mutual
theorem dp_of (s : Same B H) : ∀ {d : D} {v : V} {p : PyData}, Rep K c B d v → toPD d = some p → Dp K H v p
  | _, _, _, .non, e => by simp [toPD] at e; subst e; exact .non
  | _, _, _, .bl b, e => by simp [toPD] at e; subst e; exact .bl b
  | _, _, _, .int i, e => by simp [toPD] at e; subst e; exact .int i
  | _, _, _, .str x, e => by simp [toPD] at e; subst e; exact .str x
  | _, _, _, .ref _, e => by simp [toPD] at e
  | _, _, _, .ty _, e => by simp [toPD] at e
  | _, _, _, .obj _ _, e => by simp [toPD] at e
  | _, _, _, .exc _, e => by simp [toPD] at e
  | _, _, _, .cls _, e => by simp [toPD] at e
  | _, _, _, .lst h r, e => by
    simp only [toPD, Option.map_eq_some_iff] at e
    obtain ⟨ps, h1, rfl⟩ := e
    exact .lst (SqL.of (s _ _ h)) (dpl_of s r h1)
  | _, _, _, .ro h r, e => by
    simp only [toPD, Option.map_eq_some_iff] at e
    obtain ⟨ps, h1, rfl⟩ := e
    exact .lst (s.seq h) (dpl_of s r h1)
  | _, _, _, .tup h r, e => by
    simp only [toPD, Option.map_eq_some_iff] at e
    obtain ⟨ps, h1, rfl⟩ := e
    exact .tup (SqT.of (s _ _ h)) (dpl_of s r h1)
  | _, _, _, .ct h r, e => by
    simp only [toPD, Option.map_eq_some_iff] at e
    obtain ⟨ps, h1, rfl⟩ := e
    exact .tup (VL.SqT.up s h) (dpl_of s r h1)
theorem dpl_of (s : Same B H) : ∀ {ds : List D} {vs : List V} {ps : List PyData}, RepL K c B ds vs → toPDL ds = some ps → DpAll K H vs ps
  | _, _, _, .nil, e => by simp [toPDL] at e; subst e; exact .nil
  | _, _, _, .cons (d := d) (ds := ds) h r, e => by
    unfold toPDL at e
    cases h1 : toPD d with
    | none => rw [h1] at e; cases e
    | some p =>
      cases h2 : toPDL ds with
      | none => rw [h1, h2] at e; cases e
      | some qs =>
        rw [h1, h2] at e
        cases e
        exact .cons (dp_of s h h1) (dpl_of s r h2)
end
theorem dpT_of (s : Same B H) {d : D} {v : V} {p : PyData} (h : RepT K c B H d v) (e : toPD d = some p) : Dp K H v p := by
  rcases h with h | ⟨xs, q, vs, rfl, rfl, a1, a2⟩
  · exact dp_of s h e
  · simp only [toPD, Option.map_eq_some_iff] at e
    obtain ⟨ps, h1, rfl⟩ := e
    exact .lst (SqL.of a1) (dpl_of s a2 h1)
def eqD (x y : D) : Option Bool := match toPD x, toPD y with
  | some p, some q => if SeqAt.shaped p = true ∧ SeqAt.shaped q = true then some (PyData.eqv p q) else none
  | _, _ => none
def gEq : D → D → Option D := fun x y => (eqD x y).map .bl
def gNe : D → D → Option D := fun x y => (eqD x y).map fun b => .bl (!b)
theorem eqD_inv {x y : D} {b : Bool} (h : eqD x y = some b) : ∃ p q, toPD x = some p ∧ toPD y = some q ∧ SeqAt.shaped p = true ∧ SeqAt.shaped q = true ∧ PyData.eqv p q = b := by
  unfold eqD at h
  cases h1 : toPD x with
  | none => rw [h1] at h; cases h
  | some p =>
    cases h2 : toPD y with
    | none => rw [h1, h2] at h; cases h
    | some q =>
      rw [h1, h2] at h
      dsimp only at h
      by_cases hs : SeqAt.shaped p = true ∧ SeqAt.shaped q = true
      · rw [if_pos hs] at h
        cases h
        exact ⟨p, q, rfl, rfl, hs.1, hs.2, rfl⟩
      · rw [if_neg hs] at h
        cases h
theorem gEq_ok : R2Ok K c (rEqD K) gEq := fun B H x y v w Q d s hx hy e q => by
  unfold gEq at e
  obtain ⟨b, h1, rfl⟩ := Option.map_eq_some_iff.mp e
  obtain ⟨p, p', e1, e2, s1, s2, rfl⟩ := eqD_inv h1
  exact ⟨p, p', dpT_of s hx e1, dpT_of s hy e2, s1, s2, q _ B H (Up.refl s) (.bl _)⟩
theorem gNe_ok : R2Ok K c (rNeD K) gNe := fun B H x y v w Q d s hx hy e q => by
  unfold gNe at e
  obtain ⟨b, h1, rfl⟩ := Option.map_eq_some_iff.mp e
  obtain ⟨p, p', e1, e2, s1, s2, rfl⟩ := eqD_inv h1
  exact ⟨p, p', dpT_of s hx e1, dpT_of s hy e2, s1, s2, q _ B H (Up.refl s) (.bl _)⟩
/-! ### is None -/
def isNonD : D → Bool
  | .non => true
  | _ => false
def gIsN : D → D → Option D := fun x y => match y with
  | .non => some (.bl (isNonD x))
  | _ => none
def gNotN : D → D → Option D := fun x y => match y with
  | .non => some (.bl (!isNonD x))
  | _ => none
theorem isnon_of {d : D} {v : V} (h : RepT K c B H d v) : decide (v = .non) = isNonD d := by
  rcases h with h | ⟨xs, p, vs, rfl, rfl, _, _⟩
  · cases h <;> rfl
  · rfl
theorem gIsN_ok : R2Ok K c (fun x y H Q => y = .non ∧ Q (.bl (decide (x = .non))) H) gIsN := fun B H x y v w Q d s hx hy e q => by
  unfold gIsN at e
  split at e
  · cases e
    refine ⟨repT_non hy, ?_⟩
    rw [isnon_of hx]
    exact q _ B H (Up.refl s) (.bl _)
  · cases e
theorem gNotN_ok : R2Ok K c (fun x y H Q => y = .non ∧ Q (.bl (!decide (x = .non))) H) gNotN := fun B H x y v w Q d s hx hy e q => by
  unfold gNotN at e
  split at e
  · cases e
    refine ⟨repT_non hy, ?_⟩
    rw [isnon_of hx]
    exact q _ B H (Up.refl s) (.bl _)
  · cases e

/-! ### in, not in (flat items) -/
def fV : D → Option V
  | .non => some .non
  | .bl b => some (.bl b)
  | .int i => some (.int i)
  | .str s => some (.str s)
  | _ => none
theorem fV_rep {d : D} {v w : V} (h : RepT K c B H d v) (e : fV d = some w) : v = w := by
  cases d <;> simp only [fV, Option.some.injEq] at e <;> try cases e
  · exact repT_non h
  · exact repT_bl h
  · exact repT_int h
  · exact repT_str h
def fVs : List D → Option (List V)
  | [] => some []
  | d :: ds => match fV d, fVs ds with
    | some v, some vs => some (v :: vs)
    | _, _ => none
theorem fVs_rep : ∀ {ds : List D} {vs ws : List V}, RepL K c B ds vs → fVs ds = some ws → vs = ws
  | [], _, _, .nil, e => by cases e; rfl
  | d :: ds, _, ws, .cons h r, e => by
    unfold fVs at e
    cases h1 : fV d with
    | none => rw [h1] at e; cases e
    | some v =>
      cases h2 : fVs ds with
      | none => rw [h1, h2] at e; cases e
      | some us =>
        rw [h1, h2] at e
        cases e
        rw [fV_rep (H := B) (.of h) h1, fVs_rep r h2]
def inD (x y : D) : Option Bool := match fV x, items y with
  | some v, some ds => (match fVs ds with
    | some vs => if flatV v = true ∧ vs.all flatV = true then some (inV v vs) else none
    | none => none)
  | _, _ => none
theorem inD_ok {x y : D} {v w : V} {b : Bool} (s : Same B H) (hx : RepT K c B H x v) (hy : RepT K c B H y w) (e : inD x y = some b) : ∃ p xs, w = .ref p ∧ (SqL K H p xs ∨ SqT K H p xs) ∧ flatV v = true ∧ xs.all flatV = true ∧ inV v xs = b := by
  unfold inD at e
  cases h1 : fV x with
  | none => rw [h1] at e; cases e
  | some v0 =>
    cases h2 : items y with
    | none => rw [h1, h2] at e; cases e
    | some ds =>
      rw [h1, h2] at e
      dsimp only at e
      cases h3 : fVs ds with
      | none => rw [h3] at e; cases e
      | some vs =>
        rw [h3] at e
        dsimp only at e
        by_cases hc : flatV v0 = true ∧ vs.all flatV = true
        · rw [if_pos hc] at e
          cases e
          obtain ⟨a, us, rfl, hs, hr⟩ := repT_items s hy h2
          have e1 := fV_rep hx h1
          have e2 := fVs_rep hr h3
          subst e1 e2
          exact ⟨a, _, rfl, hs, hc.1, hc.2, rfl⟩
        · rw [if_neg hc] at e
          cases e
def gIn : D → D → Option D := fun x y => (inD x y).map .bl
def gNin : D → D → Option D := fun x y => (inD x y).map fun b => .bl (!b)
theorem gIn_ok : R2Ok K c (rIn K false) gIn := fun B H x y v w Q d s hx hy e q => by
  unfold gIn at e
  obtain ⟨b, h1, rfl⟩ := Option.map_eq_some_iff.mp e
  obtain ⟨p, xs, rfl, h2, h3, h4, rfl⟩ := inD_ok s hx hy h1
  exact ⟨p, xs, rfl, h2, h3, h4, q _ B H (Up.refl s) (.bl _)⟩
theorem gNin_ok : R2Ok K c (rIn K true) gNin := fun B H x y v w Q d s hx hy e q => by
  unfold gNin at e
  obtain ⟨b, h1, rfl⟩ := Option.map_eq_some_iff.mp e
  obtain ⟨p, xs, rfl, h2, h3, h4, rfl⟩ := inD_ok s hx hy h1
  exact ⟨p, xs, rfl, h2, h3, h4, q _ B H (Up.refl s) (.bl _)⟩

/-! ### subscripts -/
theorem atI_map {xs : List D} {vs : List V} (r : RepL K c B xs vs) {i : Int} {d : D} (e : atI xs i = some d) : ∃ v, atI vs i = some v ∧ Rep K c B d v := by
  unfold atI at e ⊢
  rw [← r.length]
  cases h : ixN xs.length i with
  | none => rw [h] at e; cases e
  | some j =>
    rw [h] at e
    obtain ⟨v, h1, h2⟩ := r.get (show xs[j]? = some d from e)
    exact ⟨v, h1, h2⟩
def gIx : D → D → Option D := fun x y => match y with
  | .int i => (match x with
    | .str z => if z.length ≤ sizeLine then (atI z.cps.toList i).map fun c => .str ⟨#[c]⟩ else none
    | _ => (items x).bind fun xs => atI xs i)
  | _ => none
theorem gIx_ok : R2Ok K c (rIx K) gIx := fun B H x y v w Q d s hx hy e q => by
  unfold gIx at e
  split at e
  · rename_i i
    have hw := repT_int hy
    subst hw
    split at e
    · rename_i z
      by_cases hz : z.length ≤ sizeLine
      · rw [if_pos hz] at e
        obtain ⟨c, h1, rfl⟩ := Option.map_eq_some_iff.mp e
        exact .inr (.inr ⟨z, i, c, repT_str hx, rfl, hz, h1, q _ B H (Up.refl s) (.str _)⟩)
      · rw [if_neg hz] at e
        cases e
    · cases h1 : items x with
      | none => rw [h1] at e; cases e
      | some xs =>
        rw [h1] at e
        obtain ⟨a, vs, rfl, hs, hr⟩ := repT_items s hx h1
        obtain ⟨v, h2, h3⟩ := atI_map hr (show atI xs i = some d from e)
        rcases hs with hs | hs
        · exact .inl ⟨a, vs, i, v, rfl, rfl, hs, h2, q _ B H (Up.refl s) h3⟩
        · exact .inr (.inl ⟨a, vs, i, v, rfl, rfl, hs, h2, q _ B H (Up.refl s) h3⟩)
  · cases e

/-! ### built-ins -/
theorem repTL_inv1 {ds : List D} {vs : List V} (h : RepTL K c B H ds vs) {d : D} (e : ds = [d]) : ∃ v, vs = [v] ∧ RepT K c B H d v := by subst e; exact repTL_1 h
def gLen : List D → Option D := fun ds => match ds with
  | [d] => (match d with
    | .str s => if s.length ≤ sizeLine then some (.int s.length) else none
    | _ => (items d).map fun xs => .int xs.length)
  | _ => none
theorem gLen_ok {X : Cx} : CBOk X.K c (fun xs H Q => ∃ x n, xs = [x] ∧ LenV X.K x H n ∧ Q (.int n) H) gLen := fun B H ds vs Q d s hr e q => by
  unfold gLen at e
  split at e
  · obtain ⟨v, rfl, hv⟩ := repTL_1 hr
    split at e
    · rename_i z
      by_cases hz : z.length ≤ sizeLine
      · rw [if_pos hz] at e
        cases e
        cases repT_str hv
        exact ⟨_, z.length, rfl, ⟨hz, rfl⟩, q _ B H (Up.refl s) (.int _)⟩
      · rw [if_neg hz] at e
        cases e
    · obtain ⟨xs, h1, rfl⟩ := Option.map_eq_some_iff.mp e
      obtain ⟨a, us, rfl, hs, hl⟩ := repT_items s hv h1
      refine ⟨_, xs.length, rfl, ?_, q _ B H (Up.refl s) (.int _)⟩
      rcases hs with hs | hs
      · exact .inl ⟨us, hs, hl.length⟩
      · exact .inr ⟨us, hs, hl.length⟩
  · cases e
def gList : List D → Option (List D) := fun ds => match ds with
  | [d] => items d
  | _ => none
theorem gList_ok {X : Cx} : CBN X.K c (fun xs H Q => ∃ p ys, xs = [.ref p] ∧ (SqL X.K H p ys ∨ SqT X.K H p ys) ∧ ∀ l, H l = none → Q (.ref l) (upd H l (.lst ys))) gList := fun B H ds vs Q d s hr e q => by
  unfold gList at e
  split at e
  · obtain ⟨v, rfl, hv⟩ := repTL_1 hr
    obtain ⟨a, us, rfl, hs, hl⟩ := repT_items s hv e
    exact ⟨a, us, rfl, hs, fun l hL => q l us B _ (Up.apart s hL) (s.free hL) hL upd_same hl⟩
  · cases e
def gTuple : List D → Option D := fun ds => match ds with
  | [.lst xs] => some (.tup xs)
  | [.ro xs] => some (.tup xs)
  | [.tup xs] => some (.tup xs)
  | [.ct xs] => some (.ct xs)
  | _ => none
theorem gTuple_ok {X : Cx} : CBOk X.K c (fun xs H Q => ∃ p ys, xs = [.ref p] ∧ ((SqL X.K H p ys ∧ ∀ l, H l = none → Q (.ref l) (upd H l (.tup ys))) ∨ (SqT X.K H p ys ∧ Q (.ref p) H))) gTuple := fun B H ds vs Q d s hr e q => by
  have new : ∀ {a : Addr} {us : List V} {xs : List D}, SqL X.K H a us → RepL X.K c B xs us → (∀ z B' H', Up B H B' H' → Rep X.K c B' (.tup xs) z → Q z H') → ∃ p ys, [V.ref a] = [V.ref p] ∧ ((SqL X.K H p ys ∧ ∀ l, H l = none → Q (.ref l) (upd H l (.tup ys))) ∨ (SqT X.K H p ys ∧ Q (.ref p) H)) := fun {a us xs} hs hl q =>
    ⟨a, us, rfl, .inl ⟨hs, fun l hL => by
      have u := Up.new (o := .tup us) s hL
      exact q _ _ _ u (.tup upd_same (hl.up u.b))⟩⟩
  unfold gTuple at e
  split at e
  · obtain ⟨v, rfl, hv⟩ := repTL_1 hr
    cases e
    obtain ⟨a, us, rfl, h1, h2⟩ := repT_lst s hv
    exact new (SqL.of h1) h2 q
  · obtain ⟨v, rfl, hv⟩ := repTL_1 hr
    cases e
    obtain ⟨a, us, rfl, h1, h2⟩ := repT_ro s hv
    exact new h1 h2 q
  · obtain ⟨v, rfl, hv⟩ := repTL_1 hr
    cases e
    rcases hv with hv | ⟨_, _, _, e, _⟩
    · cases hv with
      | tup h1 h2 => exact ⟨_, _, rfl, .inr ⟨SqT.of (s _ _ h1), q _ B H (Up.refl s) (.tup h1 h2)⟩⟩
    · cases e
  · obtain ⟨v, rfl, hv⟩ := repTL_1 hr
    cases e
    rcases hv with hv | ⟨_, _, _, e, _⟩
    · cases hv with
      | ct h1 h2 => exact ⟨_, _, rfl, .inr ⟨VL.SqT.up s h1, q _ B H (Up.refl s) (.ct h1 h2)⟩⟩
    · cases e
  · cases e
def gAbs : List D → Option D := fun ds => match ds with
  | [.int i] => some (.int (if i < 0 then -i else i))
  | _ => none
theorem gAbs_ok : CBOk K c (fun xs H Q => ∃ i, xs = [.int i] ∧ Q (.int (if i < 0 then -i else i)) H) gAbs := fun B H ds vs Q d s hr e q => by
  unfold gAbs at e
  split at e
  · obtain ⟨v, rfl, hv⟩ := repTL_1 hr
    cases e
    cases repT_int hv
    exact ⟨_, rfl, q _ B H (Up.refl s) (.int _)⟩
  · cases e
def gInt : List D → Option D := fun ds => match ds with
  | [.int i] => some (.int i)
  | [.bl b] => some (.int (if b then 1 else 0))
  | _ => none
theorem gInt_ok : CBOk K c (fun xs H Q => (∃ i, xs = [.int i] ∧ Q (.int i) H) ∨ ∃ k, xs = [.bl k] ∧ Q (.int (if k then 1 else 0)) H) gInt := fun B H ds vs Q d s hr e q => by
  unfold gInt at e
  split at e
  · obtain ⟨v, rfl, hv⟩ := repTL_1 hr
    cases e
    cases repT_int hv
    exact .inl ⟨_, rfl, q _ B H (Up.refl s) (.int _)⟩
  · obtain ⟨v, rfl, hv⟩ := repTL_1 hr
    cases e
    cases repT_bl hv
    exact .inr ⟨_, rfl, q _ B H (Up.refl s) (.int _)⟩
  · cases e
def gMax2 : List D → Option D := fun ds => match ds with
  | [.int i, .int j] => some (.int (if j > i then j else i))
  | _ => none
def gMin2 : List D → Option D := fun ds => match ds with
  | [.int i, .int j] => some (.int (if j < i then j else i))
  | _ => none
theorem gMax2_ok : CBOk K c (fun xs H Q => ∃ i j, xs = [.int i, .int j] ∧ Q (.int (if j > i then j else i)) H) gMax2 := fun B H ds vs Q d s hr e q => by
  unfold gMax2 at e
  split at e
  · obtain ⟨v, w, rfl, hv, hw⟩ := repTL_2 hr
    cases e
    cases repT_int hv
    cases repT_int hw
    exact ⟨_, _, rfl, q _ B H (Up.refl s) (.int _)⟩
  · cases e
theorem gMin2_ok : CBOk K c (fun xs H Q => ∃ i j, xs = [.int i, .int j] ∧ Q (.int (if j < i then j else i)) H) gMin2 := fun B H ds vs Q d s hr e q => by
  unfold gMin2 at e
  split at e
  · obtain ⟨v, w, rfl, hv, hw⟩ := repTL_2 hr
    cases e
    cases repT_int hv
    cases repT_int hw
    exact ⟨_, _, rfl, q _ B H (Up.refl s) (.int _)⟩
  · cases e
/-- isinstance of data against a built-in class -/
def tyD : D → Option String
  | .non => some "NoneType"
  | .bl _ => some "bool"
  | .int _ => some "int"
  | .str _ => some "str"
  | .lst _ => some "list"
  | .tup _ => some "tuple"
  | _ => none
theorem tyD_ok {d : D} {v : V} {t : String} (s : Same B H) (h : RepT K c B H d v) (e : tyD d = some t) : TyX K H v (.type t) := by
  unfold tyD at e
  split at e <;> (try cases e)
  · cases repT_non h; exact .base .non
  · cases repT_bl h; exact .base (.bl _)
  · cases repT_int h; exact .base (.int _)
  · cases repT_str h; exact .base (.str _)
  · obtain ⟨a, vs, rfl, h1, _⟩ := repT_lst s h
    exact .base (.lst h1)
  · obtain ⟨a, vs, rfl, h1, _⟩ := repT_tup s h
    exact .base (.tup h1)
def gIsi : List D → Option D := fun ds => match ds with
  | [d, .ty n] => (tyD d).bind fun t => (kitB t n).map .bl
  | _ => none
theorem gIsi_ok : CBOk K c (rIsi K) gIsi := fun B H ds vs Q d s hr e q => by
  unfold gIsi at e
  split at e
  · rename_i d0 n
    obtain ⟨v, w, rfl, hv, hw⟩ := repTL_2 hr
    cases repT_ty hw
    cases h1 : tyD d0 with
    | none => rw [h1] at e; cases e
    | some t =>
      rw [h1] at e
      obtain ⟨b, h2, rfl⟩ := Option.map_eq_some_iff.mp (show (kitB t n).map D.bl = some d from e)
      exact ⟨v, .ty n, .type t, .type n, b, rfl, .ty n, tyD_ok s hv h1, kit_ty h2, q _ B H (Up.refl s) (.bl _)⟩
  · cases e
end
section
variable {X : Cx} {W : Ws} {e a b : Expr} {es : List Expr} {ta tb : TE} {tA : TA} {fa fb : En → R D} {fn : En → R (List D)} {p pos p2 : Pos}
/-! ### slices -/
structure VO (X : Cx) (W : Ws) (e : Option Expr) (t : TO) (f : En → R (Option Int)) : Prop where
  pe : PO X e t
  ok : ∀ Fo B H ρ σ (Q : Option Int → Hp → Prop), RS X.K W.c Fo B H ρ σ → (match f ρ with
    | .ok o => ∀ B' H', Up B H B' H' → Q o H'
    | .er C => ∀ B' H', Up B H B' H' → W.W (.ref (W.c.cl C)) none σ H'
    | .no => False) → t σ H Q
def oNone : En → R (Option Int) := fun _ => .ok none
def oSome (f : En → R D) : En → R (Option Int) := fun ρ => (f ρ).bind fun d => match d with
  | .int i => .ok (some i)
  | _ => .no
theorem vo_none : VO X W none tNoPart oNone := ⟨po_none, fun Fo B H ρ σ Q r q => q B H r.same⟩
theorem vo_some (h : VE X W e ta fa) : VO X W (some e) (tPart ta) (oSome fa) := ⟨po_some h.pe, fun Fo B H ρ σ Q r q => by
  unfold oSome at q
  refine h.ok Fo B H ρ σ _ r ?_
  cases h1 : fa ρ with
  | no => rw [h1] at q; exact q
  | er C => rw [h1] at q; exact q
  | ok d =>
    rw [h1, R.bind_ok] at q
    intro v B' H' u hv
    cases hv <;> first | exact q.elim | exact ⟨_, rfl, q B' H' u⟩⟩
def cutD (xs : List D) (lo hi : Option Int) : List D := (xs.drop (HT.sIx xs.length 0 lo)).take (HT.sIx xs.length xs.length hi - HT.sIx xs.length 0 lo)
def dSl (f : En → R D) (fl fh : En → R (Option Int)) : En → R (List D) := fun ρ => (f ρ).bind fun d => (fl ρ).bind fun l => (fh ρ).bind fun h => match d with
  | .lst xs => .ok (cutD xs l h)
  | .ro xs => .ok (cutD xs l h)
  | _ => .no
theorem cut_rep {K : PySem.W.Frag} {c : Cs} {B : Hp} {xs : List D} {vs : List V} (r : RepL K c B xs vs) (l h : Option Int) : RepL K c B (cutD xs l h) (cutV vs l h) := by
  unfold cutD cutV
  rw [← r.length]
  exact (r.drop _).take _
theorem vn_slice {lo hi : Option Expr} {tl th : TO} {fl fh : En → R (Option Int)} (ha : VP X W e ta fa) (hl : VO X W lo tl fl) (hh : VO X W hi th fh) : VN X W (.Subscript e (.Slice lo hi none p2) pos) (tSl (rSlL X.K) ta tl th) (dSl fa fl fh) :=
  ⟨pe_slice sl_list ha.pe hl.pe hh.pe, fun Fo B H ρ σ Q r q => by
    unfold dSl at q
    refine ha.ok Fo B H ρ σ _ r ?_
    cases h1 : fa ρ with
    | no => rw [h1] at q; exact q
    | er C => rw [h1] at q; exact q
    | ok d =>
      rw [h1, R.bind_ok] at q
      intro v B1 H1 u1 hv
      refine hl.ok Fo B1 H1 ρ σ _ (r.up u1) ?_
      cases h2 : fl ρ with
      | no => rw [h2] at q; exact q
      | er C => rw [h2] at q; exact fun B' H' u => q B' H' (u1.trans u)
      | ok l =>
        rw [h2, R.bind_ok] at q
        intro B2 H2 u2
        have u12 := u1.trans u2
        refine hh.ok Fo B2 H2 ρ σ _ (r.up u12) ?_
        cases h3 : fh ρ with
        | no => rw [h3] at q; exact q
        | er C => rw [h3] at q; exact fun B' H' u => q B' H' (u12.trans u)
        | ok h =>
          rw [h3, R.bind_ok] at q
          intro B3 H3 u3
          have u13 := u12.trans u3
          have hv3 := hv.up (u2.trans u3)
          cases d with
          | lst xs =>
            obtain ⟨a, vs, rfl, e1, e2⟩ := repT_lst u3.bh hv3
            exact ⟨a, vs, rfl, SqL.of e1, fun p hp => q p _ B3 _ (u13.trans (Up.apart u3.bh hp)) (u3.bh.free hp) (u13.h.free hp) upd_same (cut_rep e2 _ _)⟩
          | ro xs =>
            obtain ⟨a, vs, rfl, e1, e2⟩ := repT_ro u3.bh hv3
            exact ⟨a, vs, rfl, e1, fun p hp => q p _ B3 _ (u13.trans (Up.apart u3.bh hp)) (u3.bh.free hp) (u13.h.free hp) upd_same (cut_rep e2 _ _)⟩
          | _ => exact q.elim⟩
/-! ### chains of two comparisons -/
def chK (r : R D) : D → R D
  | .bl true => r
  | .bl false => .ok (.bl false)
  | _ => .no
def dChain (g g' : D → D → Option D) (fa fb fc : En → R D) : En → R D := fun ρ => (fa ρ).bind fun x => (fb ρ).bind fun y => (ofO (g x y)).bind (chK ((fc ρ).bind fun w => ofO (g' y w)))
theorem tChain_ok {c : Expr} {tc : TE} {fc : En → R D} {r r' : R2} {g g' : D → D → Option D} (hr : R2Ok X.K W.c r g) (hr' : R2Ok X.K W.c r' g') (ha : VP X W a ta fa) (hb : VP X W b tb fb) (hc : VP X W c tc fc) {Fo B H ρ σ Q} (rs : RS X.K W.c Fo B H ρ σ) (q : EPost X.K W σ B H (dChain g g' fa fb fc ρ) Q) :
    tChain r r' ta tb tc σ H Q := by
  unfold dChain at q
  refine ha.ok Fo B H ρ σ _ rs ?_
  cases h1 : fa ρ with
  | no => rw [h1] at q; exact q
  | er C => rw [h1] at q; exact q
  | ok x =>
    rw [h1, R.bind_ok] at q
    intro v B1 H1 u1 r1
    refine hb.ok Fo B1 H1 ρ σ _ (rs.up u1) ?_
    cases h2 : fb ρ with
    | no => rw [h2] at q; exact q
    | er C => rw [h2] at q; exact fun B' H' u => q B' H' (u1.trans u)
    | ok y =>
      rw [h2, R.bind_ok] at q
      intro w B2 H2 u2 r2
      cases h3 : g x y with
      | none => rw [h3] at q; exact q.elim
      | some d =>
        rw [h3] at q
        have q : EPost X.K W σ B H (chK ((fc ρ).bind fun w => ofO (g' y w)) d) Q := q
        refine hr B2 H2 x y v w _ d u2.bh (r1.up u2) r2 h3 fun z B3 H3 u3 hz => ?_
        have u13 := (u1.trans u2).trans u3
        cases hz with
        | bl k =>
          cases k with
          | false => exact ⟨false, rfl, iteF (q _ B3 H3 u13 (.bl _))⟩
          | true =>
            refine ⟨true, rfl, iteT ?_⟩
            unfold chK at q
            refine hc.ok Fo B3 H3 ρ σ _ (rs.up u13) ?_
            cases h4 : fc ρ with
            | no => rw [h4] at q; exact q
            | er C => rw [h4] at q; exact fun B' H' u => q B' H' (u13.trans u)
            | ok x3 =>
              rw [h4, R.bind_ok] at q
              intro w3 B4 H4 u4 r4
              cases h5 : g' y x3 with
              | none => rw [h5] at q; exact q.elim
              | some d3 =>
                rw [h5] at q
                exact hr' B4 H4 y x3 w w3 Q d3 u4.bh (r2.up (u3.trans u4)) r4 h5 fun z B' H' u' hz => q z B' H' ((u13.trans u4).trans u') hz
        | _ => exact q.elim
theorem ve_chain {op op' : CmpOp} {c : Expr} {tc : TE} {fc : En → R D} {r r' : R2} {g g' : D → D → Option D} (ho : OpR X (compareOp op) r) (ho' : OpR X (compareOp op') r') (hr : R2Ok X.K W.c r g) (hr' : R2Ok X.K W.c r' g') (ha : VP X W a ta fa) (hb : VP X W b tb fb) (hc : VP X W c tc fc)
    (hm : lastMarks [op, op'] [b, c] = false := by with_unfolding_all rfl) : VE X W (.Compare a [op, op'] [b, c] pos) (L2.tChain r r' ta tb tc) (dChain g g' fa fb fc) :=
  ⟨pe_chain ho ho' ha.pe hb.pe hc.pe hm, fun _ _ _ _ _ _ rs q => tChain_ok hr hr' ha hb hc rs q⟩
theorem vt_chain {op op' : CmpOp} {c : Expr} {tc : TE} {fc : En → R D} {r r' : R2} {g g' : D → D → Option D} (ho : OpR X (compareOp op) r) (ho' : OpR X (compareOp op') r') (hr : R2Ok X.K W.c r g) (hr' : R2Ok X.K W.c r' g') (ha : VP X W a ta fa) (hb : VP X W b tb fb) (hc : VP X W c tc fc)
    (hm : lastMarks [op, op'] [b, c] = false := by with_unfolding_all rfl) : VT X W (.Compare a [op, op'] [b, c] pos) (tTest (L2.tChain r r' ta tb tc)) (dBl (dChain g g' fa fb fc)) :=
  ⟨pt_chain ho ho' ha.pe hb.pe hc.pe hm, fun Fo B H ρ σ Q rs q => by
    unfold dBl at q
    refine tChain_ok hr hr' ha hb hc rs ?_
    cases h : dChain g g' fa fb fc ρ with
    | no => rw [h] at q; exact q
    | er C => rw [h] at q; exact q
    | ok d =>
      rw [h, R.bind_ok] at q
      intro v B' H' u hv
      cases hv <;> first | exact q.elim | exact ⟨_, rfl, q B' H' u⟩⟩
/-! ### short words -/
abbrev rLenB (K : PySem.W.Frag) : List V → Hp → VK → Prop := fun xs H Q => ∃ x n, xs = [x] ∧ LenV K x H n ∧ Q (.int n) H
abbrev rListB (K : PySem.W.Frag) : List V → Hp → VK → Prop := fun xs H Q => ∃ p ys, xs = [.ref p] ∧ (SqL K H p ys ∨ SqT K H p ys) ∧ ∀ l, H l = none → Q (.ref l) (upd H l (.lst ys))
abbrev rTupleB (K : PySem.W.Frag) : List V → Hp → VK → Prop := fun xs H Q => ∃ p ys, xs = [.ref p] ∧ ((SqL K H p ys ∧ ∀ l, H l = none → Q (.ref l) (upd H l (.tup ys))) ∨ (SqT K H p ys ∧ Q (.ref p) H))
abbrev rAbsB : List V → Hp → VK → Prop := fun xs H Q => ∃ i, xs = [.int i] ∧ Q (.int (if i < 0 then -i else i)) H
abbrev rIntB : List V → Hp → VK → Prop := fun xs H Q => (∃ i, xs = [.int i] ∧ Q (.int i) H) ∨ ∃ k, xs = [.bl k] ∧ Q (.int (if k then 1 else 0)) H
abbrev rMax2B : List V → Hp → VK → Prop := fun xs H Q => ∃ i j, xs = [.int i, .int j] ∧ Q (.int (if j > i then j else i)) H
abbrev rMin2B : List V → Hp → VK → Prop := fun xs H Q => ∃ i j, xs = [.int i, .int j] ∧ Q (.int (if j < i then j else i)) H
theorem ve_len (hm : X.mg "len" = none) (ha : VAP X W (e :: es) tA fn) (hg : Gl X "len" := by rfl) (he : starEach (e :: es) X.env = (false, eval e X.env) :: starEach es X.env := by rfl) (hpl : (backTo pos (starEach es X.env)).any (·.1) = false := by rfl) :
    VE X W (.Call (.Name "len" p) (e :: es) [] pos) (tCB (rLenB X.K) tA) (dCB gLen fn) := ve_callB call_len gLen_ok hm PySem.boot_len ha hg (by decide) (by decide) he hpl
theorem vn_list (hm : X.mg "list" = none) (ha : VAP X W (e :: es) tA fn) (hg : Gl X "list" := by rfl) (he : starEach (e :: es) X.env = (false, eval e X.env) :: starEach es X.env := by rfl) (hpl : (backTo pos (starEach es X.env)).any (·.1) = false := by rfl) :
    VN X W (.Call (.Name "list" p) (e :: es) [] pos) (tCB (rListB X.K) tA) (dCBN gList fn) := vn_callTy call_list_of gList_ok hm (by decide +kernel) ha hg (by decide) (by decide) he hpl
theorem ve_tuple (hm : X.mg "tuple" = none) (ha : VAP X W (e :: es) tA fn) (hg : Gl X "tuple" := by rfl) (he : starEach (e :: es) X.env = (false, eval e X.env) :: starEach es X.env := by rfl) (hpl : (backTo pos (starEach es X.env)).any (·.1) = false := by rfl) :
    VE X W (.Call (.Name "tuple" p) (e :: es) [] pos) (tCB (rTupleB X.K) tA) (dCB gTuple fn) := ve_callTy call_tuple_of gTuple_ok hm (by decide +kernel) ha hg (by decide) (by decide) he hpl
theorem ve_abs (hm : X.mg "abs" = none) (ha : VAP X W (e :: es) tA fn) (hg : Gl X "abs" := by rfl) (he : starEach (e :: es) X.env = (false, eval e X.env) :: starEach es X.env := by rfl) (hpl : (backTo pos (starEach es X.env)).any (·.1) = false := by rfl) :
    VE X W (.Call (.Name "abs" p) (e :: es) [] pos) (tCB (rAbsB) tA) (dCB gAbs fn) := ve_callB call_abs gAbs_ok hm (by decide +kernel) ha hg (by decide) (by decide) he hpl
theorem ve_intc (hm : X.mg "int" = none) (ha : VAP X W (e :: es) tA fn) (hg : Gl X "int" := by rfl) (he : starEach (e :: es) X.env = (false, eval e X.env) :: starEach es X.env := by rfl) (hpl : (backTo pos (starEach es X.env)).any (·.1) = false := by rfl) :
    VE X W (.Call (.Name "int" p) (e :: es) [] pos) (tCB (rIntB) tA) (dCB gInt fn) := ve_callTy call_int1 gInt_ok hm (by decide +kernel) ha hg (by decide) (by decide) he hpl
theorem ve_max2 (hc : X.calm = true) (hm : X.mg "max" = none) (ha : VAP X W (e :: es) tA fn) (hg : Gl X "max" := by rfl) (he : starEach (e :: es) X.env = (false, eval e X.env) :: starEach es X.env := by rfl) (hpl : (backTo pos (starEach es X.env)).any (·.1) = false := by rfl) :
    VE X W (.Call (.Name "max" p) (e :: es) [] pos) (tCB (rMax2B) tA) (dCB gMax2 fn) := ve_callB (call_max2 hc) gMax2_ok hm (by decide +kernel) ha hg (by decide) (by decide) he hpl
theorem ve_min2 (hc : X.calm = true) (hm : X.mg "min" = none) (ha : VAP X W (e :: es) tA fn) (hg : Gl X "min" := by rfl) (he : starEach (e :: es) X.env = (false, eval e X.env) :: starEach es X.env := by rfl) (hpl : (backTo pos (starEach es X.env)).any (·.1) = false := by rfl) :
    VE X W (.Call (.Name "min" p) (e :: es) [] pos) (tCB (rMin2B) tA) (dCB gMin2 fn) := ve_callB (call_min2 hc) gMin2_ok hm (by decide +kernel) ha hg (by decide) (by decide) he hpl
theorem ve_isi (hm : X.mg "isinstance" = none) (ha : VAP X W (e :: es) tA fn) (hg : Gl X "isinstance" := by rfl) (he : starEach (e :: es) X.env = (false, eval e X.env) :: starEach es X.env := by rfl) (hpl : (backTo pos (starEach es X.env)).any (·.1) = false := by rfl) :
    VE X W (.Call (.Name "isinstance" p) (e :: es) [] pos) (tCB (rIsi X.K) tA) (dCB gIsi fn) := ve_callB call_isi gIsi_ok hm (by decide +kernel) ha hg (by decide) (by decide) he hpl
theorem ve_gint {x : Str} {i : Int} {pos : Pos} (c : ∃ t, X.mg x = some (.int i t)) (hg : Gl X x := by rfl) (hd : (x == ("__debug__" : Str)) = false := by decide) : VE X W (.Name x pos) (tC (.int i)) (dC (.int i)) :=
  ve_glob c.choose_spec ⟨_, rfl⟩ (fun _ => .int _) hg hd
theorem ve_gcon {x : Str} {d : D} {pos : Pos} (c : ∃ a, X.mg x = some (.ref a) ∧ ∀ B, Rep X.K W.c B d (.ref a)) (hg : Gl X x := by rfl) (hd : (x == ("__debug__" : Str)) = false := by decide) : VE X W (.Name x pos) (tC (.ref c.choose)) (dC d) :=
  ve_glob c.choose_spec.1 rfl c.choose_spec.2 hg hd
theorem ve_bltn {x : Str} {v : V} {d : D} {u : Value} {pos : Pos} (hm : X.mg x = none) (hv : bootBuiltins x = some u) (r : RelV v u) (hr : ∀ B, Rep X.K W.c B d v) (hg : Gl X x := by rfl) (hn : x ≠ "__name__" := by decide) (hd : (x == ("__debug__" : Str)) = false := by decide) : VE X W (.Name x pos) (tC v) (dC d) :=
  ve_c (pe_bltn hg hm hv r hn hd) hr
end
end VL
set_option maxRecDepth 100000
set_option maxHeartbeats 4000000
namespace VL
open PySem PySem.Spec PyProof.Rows L2

/-! ### evaluation -/
theorem gAdd_i (i j : Int) : gAdd (.int i) (.int j) = some (.int (i + j)) := rfl
theorem gAdd_l {xs ys : List D} (h : xs.length + ys.length ≤ sizeLine) : gAdd (.lst xs) (.lst ys) = some (.lst (xs ++ ys)) := if_pos h
theorem gCat_l {xs ys : List D} (h : xs.length + ys.length ≤ sizeLine) : gCat (.lst xs) (.lst ys) = some (xs ++ ys) := if_pos h
theorem gSub_i (i j : Int) : gSub (.int i) (.int j) = some (.int (i - j)) := rfl
theorem gMul_r {i j : Int} (h : -(2 ^ 64) < j ∧ j < 2 ^ 64) : gMul (.int i) (.int j) = some (.int (i * j)) := if_pos (.inl (.inr h))
theorem gMul_l {i j : Int} (h : -(2 ^ 64) < i ∧ i < 2 ^ 64) : gMul (.int i) (.int j) = some (.int (i * j)) := if_pos (.inl (.inl h))
theorem gMul_w {i j : Int} (h : i.natAbs.log2 + j.natAbs.log2 < 1000000) : gMul (.int i) (.int j) = some (.int (i * j)) := if_pos (.inr h)
theorem gMul_rep {xs : List D} {k : Int} (h0 : 0 ≤ k) (h1 : xs.length * k.toNat ≤ sizeLine) (h2 : k < 2 ^ 63) : gMul (.lst xs) (.int k) = some (.lst (List.replicate k.toNat xs).flatten) := if_pos ⟨by omega, h2, h1⟩
theorem gRepN_l {xs : List D} {k : Int} (h0 : 0 ≤ k) (h1 : xs.length * k.toNat ≤ sizeLine) (h2 : k < 2 ^ 63) : gRepN (.lst xs) (.int k) = some (List.replicate k.toNat xs).flatten := if_pos ⟨by omega, h2, h1⟩
theorem log2_lt_of {n : Nat} {k : Nat} (h : n < 2 ^ k) (hk : 0 < k) : n.log2 < k := PySem.Flt.log2_lt_of hk h
theorem gFDiv_s {i j : Int} (h : 0 < j ∧ j < 2 ^ 64) : gFDiv (.int i) (.int j) = some (.int (i / j)) := if_pos ⟨h.1, Nat.lt_of_lt_of_le (log2_lt_of (k := 64) (by omega) (by decide)) (by decide)⟩
theorem gFDiv_w {i j : Int} (h : 0 < j) (h2 : j.natAbs.log2 < 9000) : gFDiv (.int i) (.int j) = some (.int (i / j)) := if_pos ⟨h, h2⟩
theorem gMod_i {i j : Int} (h : 0 < j) : gMod (.int i) (.int j) = some (.int (i % j)) := if_pos h
theorem gPow_i {i j : Int} (h : 0 ≤ j ∧ j ≤ 1000000 ∧ i.natAbs < 2 ^ 64) : gPow (.int i) (.int j) = some (.int (i ^ j.toNat)) := if_pos h
theorem gShl_i {i j : Int} (h : 0 ≤ j ∧ j ≤ 1000000 ∧ i.natAbs < 2 ^ 64) : gShl (.int i) (.int j) = some (.int (i * 2 ^ j.toNat)) := if_pos h
theorem gShr_i {i j : Int} (h : 0 ≤ j) : gShr (.int i) (.int j) = some (.int (i / 2 ^ j.toNat)) := if_pos h
theorem gAnd_i (i j : Int) : gAnd (.int i) (.int j) = some (.int (Builtin.bitAnd i j)) := rfl
theorem gOr_i (i j : Int) : gOr (.int i) (.int j) = some (.int (Builtin.bitOr i j)) := rfl
theorem gXor_i (i j : Int) : gXor (.int i) (.int j) = some (.int (Builtin.bitXor i j)) := rfl
theorem gLt_i (i j : Int) : gLt (.int i) (.int j) = some (.bl (decide (i < j))) := rfl
theorem gLe_i (i j : Int) : gLe (.int i) (.int j) = some (.bl (decide (i ≤ j))) := rfl
theorem gGt_i (i j : Int) : gGt (.int i) (.int j) = some (.bl (decide (j < i))) := rfl
theorem gGe_i (i j : Int) : gGe (.int i) (.int j) = some (.bl (decide (j ≤ i))) := rfl
theorem eqD_ii (i j : Int) : eqD (.int i) (.int j) = some (i == j) := rfl
theorem gEq_i (i j : Int) : gEq (.int i) (.int j) = some (.bl (i == j)) := rfl
theorem gNe_i (i j : Int) : gNe (.int i) (.int j) = some (.bl (!(i == j))) := rfl
theorem gLen_l (xs : List D) : gLen [.lst xs] = some (.int xs.length) := rfl
theorem gLen_r (xs : List D) : gLen [.ro xs] = some (.int xs.length) := rfl
theorem gLen_t (xs : List D) : gLen [.tup xs] = some (.int xs.length) := rfl
theorem gLen_c (xs : List D) : gLen [.ct xs] = some (.int xs.length) := rfl
theorem gInt_i (i : Int) : gInt [.int i] = some (.int i) := rfl
theorem gInt_b (b : Bool) : gInt [.bl b] = some (.int (if b then 1 else 0)) := rfl
theorem gAbs_i (i : Int) : gAbs [.int i] = some (.int (if i < 0 then -i else i)) := rfl
theorem uApp_l {ds : List D} {d : D} (h : ds.length < sizeLine) : uApp ds d = some (ds ++ [d]) := if_pos h
theorem atI_get {α : Type} {xs : List α} {i : Int} (h0 : 0 ≤ i) (h1 : i < xs.length) : atI xs i = xs[i.toNat]? := by
  unfold atI ixN
  rw [if_pos h0, if_pos h1]
  rfl
theorem gIx_l {xs : List D} {i : Int} (h0 : 0 ≤ i) (h1 : i < xs.length) : gIx (.lst xs) (.int i) = xs[i.toNat]? := atI_get h0 h1
theorem gIx_r {xs : List D} {i : Int} (h0 : 0 ≤ i) (h1 : i < xs.length) : gIx (.ro xs) (.int i) = xs[i.toNat]? := atI_get h0 h1
theorem gIx_t {xs : List D} {i : Int} (h0 : 0 ≤ i) (h1 : i < xs.length) : gIx (.tup xs) (.int i) = xs[i.toNat]? := atI_get h0 h1
theorem gIx_c {xs : List D} {i : Int} (h0 : 0 ≤ i) (h1 : i < xs.length) : gIx (.ct xs) (.int i) = xs[i.toNat]? := atI_get h0 h1
theorem toPDL_ints : ∀ xs : List Int, toPDL (xs.map .int) = some (xs.map .int)
  | [] => rfl
  | x :: xs => by
    simp only [List.map_cons]
    unfold toPDL
    rw [toPDL_ints xs]
    rfl
theorem canLay_ints : ∀ xs : List Int, PyData.canLayAll0 (xs.map PyData.int) = true
  | [] => rfl
  | x :: xs => by
    simp only [List.map_cons]
    unfold PyData.canLayAll0
    rw [canLay_ints xs]
    rfl
theorem eqvAll_ints : ∀ xs ys : List Int, PyData.eqvAll (xs.map .int) (ys.map .int) = (xs == ys)
  | [], [] => rfl
  | [], y :: ys => rfl
  | x :: xs, [] => rfl
  | x :: xs, y :: ys => by
    simp only [List.map_cons]
    unfold PyData.eqvAll
    rw [eqvAll_ints xs ys]
    unfold PyData.eqv
    show _ = ((x == y) && (xs == ys))
    rfl
theorem depthAll_ints : ∀ xs : List Int, PyData.depthAll (xs.map PyData.int) ≤ 1
  | [] => by unfold PyData.depthAll; decide
  | x :: xs => by
    simp only [List.map_cons]
    unfold PyData.depthAll
    have := depthAll_ints xs
    have e : PyData.depth (.int x) ≤ 1 := by unfold PyData.depth; decide
    omega
theorem shaped_ints (xs : List Int) : SeqAt.shaped (.list (xs.map .int)) = true := by
  unfold SeqAt.shaped
  rw [Bool.and_eq_true]
  refine ⟨?_, decide_eq_true ?_⟩
  · unfold PyData.canLay0
    exact canLay_ints xs
  · unfold PyData.depth
    have := depthAll_ints xs
    omega
theorem eqD_ints (xs ys : List Int) : eqD (.lst (xs.map .int)) (.lst (ys.map .int)) = some (xs == ys) := by
  unfold eqD
  simp only [toPD, toPDL_ints, Option.map_some]
  rw [if_pos ⟨shaped_ints xs, shaped_ints ys⟩]
  congr 1
  unfold PyData.eqv
  exact eqvAll_ints xs ys

theorem seq_nx {f g : En → Out} {ρ ρ' : En} (h : f ρ = .nx ρ') : gSeq f g ρ = g ρ' := by unfold gSeq; rw [h]
theorem seq_rt {f g : En → Out} {ρ : En} {d : D} (h : f ρ = .rt d) : gSeq f g ρ = .rt d := by unfold gSeq; rw [h]
theorem fnV_rt {n : Nat} {g : En → Out} {ds : List D} {d : D} (h : g (startE n ds) = .rt d) : fnV n g ds = .ok d := by unfold fnV finV; rw [h]
theorem fnV_nx {n : Nat} {g : En → Out} {ds : List D} {ρ : En} (h : g (startE n ds) = .nx ρ) : fnV n g ds = .ok .non := by unfold fnV finV; rw [h]
theorem fnV_er {n : Nat} {g : En → Out} {ds : List D} {C : Addr} {ρ : En} (h : g (startE n ds) = .er C ρ) : fnV n g ds = .er C := by unfold fnV finV; rw [h]
theorem fnN_rn {n : Nat} {g : En → Out} {ds xs : List D} (h : g (startE n ds) = .rn xs) : fnN n g ds = .ok xs := by unfold fnN finN; rw [h]
theorem fnN_er {n : Nat} {g : En → Out} {ds : List D} {C : Addr} {ρ : En} (h : g (startE n ds) = .er C ρ) : fnN n g ds = .er C := by unfold fnN finN; rw [h]
theorem for_step {fi : En → R (List D)} {gf : D → En → Option En} {gb : En → Out} {ρ ρ' : En} {ds : List D} (hf : fi ρ = .ok ds) (h : forD gf gb ds ρ = .nx ρ') : gFor fi gf gb ρ = .nx ρ' := by unfold gFor gLet; rw [hf]; exact h
/-! ### isinstance -/
theorem kb_int_int : kitB "int" "int" = some true := by decide +kernel
theorem kb_int_bool : kitB "int" "bool" = some false := by decide +kernel
theorem kb_int_list : kitB "int" "list" = some false := by decide +kernel
theorem kb_int_tuple : kitB "int" "tuple" = some false := by decide +kernel
theorem kb_bool_int : kitB "bool" "int" = some true := by decide +kernel
theorem kb_bool_bool : kitB "bool" "bool" = some true := by decide +kernel
theorem kb_list_list : kitB "list" "list" = some true := by decide +kernel
theorem kb_list_int : kitB "list" "int" = some false := by decide +kernel
theorem kb_list_bool : kitB "list" "bool" = some false := by decide +kernel
theorem kb_list_tuple : kitB "list" "tuple" = some false := by decide +kernel
theorem kb_tuple_tuple : kitB "tuple" "tuple" = some true := by decide +kernel
theorem kb_tuple_list : kitB "tuple" "list" = some false := by decide +kernel
theorem kb_tuple_int : kitB "tuple" "int" = some false := by decide +kernel
theorem kb_str_str : kitB "str" "str" = some true := by decide +kernel
theorem kb_str_int : kitB "str" "int" = some false := by decide +kernel
theorem kb_str_list : kitB "str" "list" = some false := by decide +kernel
theorem kb_non_list : kitB "NoneType" "list" = some false := by decide +kernel
theorem kb_non_int : kitB "NoneType" "int" = some false := by decide +kernel
theorem kb_bool_list : kitB "bool" "list" = some false := by decide +kernel
theorem gIsi_e (d : D) (n : String) : gIsi [d, .ty n] = (tyD d).bind fun t => (kitB t n).map .bl := rfl
theorem gList_l (xs : List D) : gList [.lst xs] = some xs := rfl
theorem gList_r (xs : List D) : gList [.ro xs] = some xs := rfl
theorem gList_t (xs : List D) : gList [.tup xs] = some xs := rfl
theorem gList_c (xs : List D) : gList [.ct xs] = some xs := rfl
theorem gzip_l (xs ys : List D) : gzip [.lst xs, .lst ys] = .ok ((xs.zip ys).map fun p => .tup [p.1, p.2]) := rfl
theorem genum_l (xs : List D) : genum [.lst xs] = .ok (xs.zipIdx.map fun p => .tup [.int (p.2 : Nat), p.1]) := rfl

/-! ### loops -/
theorem for_map' {α β J : Type} (c : β → D) (mk : α → J → En) (step : α → β → α) {gf : D → En → Option En} {gb : En → Out} (I : List β → α → Prop) (all : List β)
    (h : ∀ pre x post a j, all = pre ++ x :: post → I pre a → ∃ ρ1 j', gf (c x) (mk a j) = some ρ1 ∧ (gb ρ1 = .nx (mk (step a x) j') ∨ gb ρ1 = .ct (mk (step a x) j')) ∧ I (pre ++ [x]) (step a x)) :
    ∀ (xs pre : List β) (a : α) (j : J), all = pre ++ xs → I pre a → ∃ j', forD gf gb (xs.map c) (mk a j) = .nx (mk (xs.foldl step a) j') ∧ I (pre ++ xs) (xs.foldl step a)
  | [], pre, a, j, _, hi => ⟨j, rfl, by rw [List.append_nil]; exact hi⟩
  | x :: xs, pre, a, j, hm, hi => by
    obtain ⟨ρ1, j1, e1, e2, hi1⟩ := h pre x xs a j hm hi
    obtain ⟨j2, e3, hi2⟩ := for_map' c mk step I all h xs (pre ++ [x]) (step a x) j1 (by rw [hm, List.append_assoc]; rfl) hi1
    refine ⟨j2, ?_, ?_⟩
    · simp only [List.map_cons, List.foldl_cons]
      unfold forD
      rw [e1]
      dsimp only
      rcases e2 with e2 | e2 <;> rw [e2] <;> exact e3
    · rw [List.append_assoc] at hi2
      exact hi2
/-- a loop whose state is folded; I: what holds behind the items taken -/
theorem for_map {α β J : Type} (c : β → D) (mk : α → J → En) (step : α → β → α) {gf : D → En → Option En} {gb : En → Out} (I : List β → α → Prop) (xs : List β) (a : α) (j : J) (hi : I [] a)
    (h : ∀ pre x post a j, xs = pre ++ x :: post → I pre a → ∃ ρ1 j', gf (c x) (mk a j) = some ρ1 ∧ (gb ρ1 = .nx (mk (step a x) j') ∨ gb ρ1 = .ct (mk (step a x) j')) ∧ I (pre ++ [x]) (step a x)) :
    ∃ j', forD gf gb (xs.map c) (mk a j) = .nx (mk (xs.foldl step a) j') ∧ I xs (xs.foldl step a) := for_map' c mk step I xs h xs [] a j rfl hi
/-- .. nothing to say of the state -/
theorem for_fold {α β J : Type} (c : β → D) (mk : α → J → En) (step : α → β → α) {gf : D → En → Option En} {gb : En → Out} (xs : List β) (a : α) (j : J)
    (h : ∀ x a j, x ∈ xs → ∃ ρ1 j', gf (c x) (mk a j) = some ρ1 ∧ (gb ρ1 = .nx (mk (step a x) j') ∨ gb ρ1 = .ct (mk (step a x) j'))) :
    ∃ j', forD gf gb (xs.map c) (mk a j) = .nx (mk (xs.foldl step a) j') := by
  obtain ⟨j', e, _⟩ := for_map c mk step (gf := gf) (gb := gb) (fun _ _ => True) xs a j trivial (fun pre x post a j hx _ => by
    obtain ⟨ρ1, j', h1, h2⟩ := h x a j (by rw [hx]; simp)
    exact ⟨ρ1, j', h1, h2, trivial⟩)
  exact ⟨j', e⟩
theorem pos_lit {n : Nat} (h : (n : Int) < 2 ^ 62) : -(2 ^ 62) ≤ (n : Int) ∧ (n : Int) < 2 ^ 62 := ⟨by omega, h⟩
/-- range(n) -/
theorem dRng_1 {n : Int} {ρ : En} {f : En → R (List D)} (h : f ρ = .ok [.int n]) (h1 : -(2 ^ 62) ≤ n ∧ n < 2 ^ 62) : dRng f ρ = .ok (rngD 0 n) := by
  unfold dRng
  rw [h]
  exact if_pos h1
theorem rngD_0 (n : Int) : rngD 0 n = (List.range n.toNat).map fun (i : Nat) => .int (i : Int) := by
  unfold rngD
  rw [Int.sub_zero]
  congr 1
  funext i
  rw [Int.zero_add]
theorem line_of {n : Nat} (h : n ≤ 10000000) : n < sizeLine := Nat.lt_of_le_of_lt h (by rw [sizeLine_eq]; decide)
theorem line_le {n : Nat} (h : n ≤ 10000000) : n ≤ sizeLine := Nat.le_of_lt (line_of h)
def iL (xs : List Int) : List D := xs.map .int
theorem iL_map (xs : List Int) : iL xs = xs.map .int := rfl
theorem iL_cons (x : Int) (xs : List Int) : iL (x :: xs) = .int x :: iL xs := rfl
theorem iL_get (xs : List Int) (i : Nat) : (iL xs)[i]? = (xs[i]?).map .int := by simp [iL]
theorem iL_app (xs : List Int) (y : Int) : iL xs ++ [.int y] = iL (xs ++ [y]) := by simp [iL]
theorem iL_cat (xs ys : List Int) : iL xs ++ iL ys = iL (xs ++ ys) := by simp [iL]
theorem gEq_ints (xs ys : List Int) : gEq (.lst (iL xs)) (.lst (iL ys)) = some (.bl (xs == ys)) := by unfold gEq iL; rw [eqD_ints]; rfl
theorem gNe_ints (xs ys : List Int) : gNe (.lst (iL xs)) (.lst (iL ys)) = some (.bl (!(xs == ys))) := by unfold gNe iL; rw [eqD_ints]; rfl
theorem iL_nil : iL [] = [] := rfl
theorem iL_len (xs : List Int) : (iL xs).length = xs.length := by simp [iL]
theorem iL_rep (k : Nat) (x : Int) : (List.replicate k [D.int x]).flatten = iL (List.replicate k x) := by
  induction k with
  | zero => rfl
  | succ k ih => simp only [List.replicate_succ, List.flatten_cons, ih, iL, List.map_cons, List.singleton_append]
theorem cutD_to (xs : List D) (k : Nat) : cutD xs none (some (k : Int)) = xs.take k := by
  unfold cutD
  rw [HT.sIx_none, HT.sIx_nat, List.drop_zero, Nat.sub_zero]
  by_cases h : k ≤ xs.length
  · rw [Nat.min_eq_left h]
  · rw [Nat.min_eq_right (by omega), List.take_of_length_le (Nat.le_refl _), List.take_of_length_le (by omega)]
theorem cutD_from (xs : List D) (k : Nat) : cutD xs (some (k : Int)) none = xs.drop k := by
  unfold cutD
  rw [HT.sIx_none, HT.sIx_nat]
  by_cases h : k ≤ xs.length
  · rw [Nat.min_eq_left h]
    exact List.take_of_length_le (by simp)
  · rw [Nat.min_eq_right (by omega), Nat.sub_self, List.take_zero, List.drop_eq_nil_of_le (by omega)]
theorem cutD_mid (xs : List D) (a b : Nat) : cutD xs (some (a : Int)) (some (b : Int)) = (xs.drop a).take (b - a) := by
  unfold cutD
  rw [HT.sIx_nat, HT.sIx_nat]
  by_cases h : a ≤ xs.length
  · rw [Nat.min_eq_left h]
    by_cases hb : b ≤ xs.length
    · rw [Nat.min_eq_left hb]
    · rw [Nat.min_eq_right (show xs.length ≤ b by omega), List.take_of_length_le (by simp), List.take_of_length_le (by simp; omega)]
  · rw [Nat.min_eq_right (show xs.length ≤ a by omega), List.drop_eq_nil_of_le (Nat.le_refl _), List.drop_eq_nil_of_le (by omega)]
    simp
theorem iL_take (xs : List Int) (k : Nat) : (iL xs).take k = iL (xs.take k) := by simp [iL, List.map_take]
theorem iL_drop (xs : List Int) (k : Nat) : (iL xs).drop k = iL (xs.drop k) := by simp [iL, List.map_drop]
end VL
set_option maxRecDepth 100000
set_option maxHeartbeats 4000000
namespace VL
open PySem PySem.Spec PyProof.Rows L2
/-! ### zip of a tuple and a list -/
def ItzM (K : PySem.W.Frag) (a b : Addr) : It :=
  ⟨fun i H => ∃ (xs ys : List V) (x y : V), SqT K H a xs ∧ SqL K H b ys ∧ xs[i]? = some x ∧ ys[i]? = some y,
    fun i H v H' => ∃ T x y, v = .ref T ∧ H T = none ∧ H' = upd H T (.tup [x, y]) ∧ (∀ xs, SqT K H a xs → xs[i]? = some x) ∧ ∀ ys, SqL K H b ys → ys[i]? = some y,
    fun i H => ∃ xs ys : List V, SqT K H a xs ∧ SqL K H b ys ∧ (i = xs.length ∧ i ≤ ys.length ∨ i = ys.length ∧ i ≤ xs.length)⟩
theorem sepM {z TI TO i1 i2 a b : Addr} (D : ZipApart z TI TO i1 i2 a b) : ZipSep2 z TI TO i1 i2 [i1, a] [i2, b] where
  TIz := D.TIz
  TOz := D.TOz
  TITO := D.TITO
  TIi1 := D.TIi1
  mem1 := by simp
  zf1 := by simp; exact ⟨fun e => D.i1z e.symm, fun e => D.l1z e.symm⟩
  Tf1 := by simp; exact ⟨D.TOi1, fun e => D.l1TO e.symm⟩
  TIi2 := D.TIi2
  mem2 := by simp
  zf2 := by simp; exact ⟨fun e => D.i2z e.symm, fun e => D.l2z e.symm⟩
  Tf2 := by simp; exact ⟨D.TOi2, fun e => D.l2TO e.symm⟩
  sep1_2 := by simp; exact ⟨D.i12, fun e => D.l2i1 e.symm⟩
  sep2_1 := by simp; exact ⟨fun e => D.i12 e.symm, fun e => D.l1i2 e.symm⟩
theorem turn_zipM {P : Program} {w : World} {K : PySem.W.Frag} {elts : List Expr} {kk : Nat} {tpos : Pos} {a b z TI TO i1 i2 : Addr} (D : ZipApart z TI TO i1 i2 a b) :
    Turn P w K (.Tuple elts kk tpos) (ItzM K a b) [z, TI, TO, i1, i2] z (fun i h => IsZip h z TI TO .none ∧ IsTupOf2 h TI (.ref i1) (.ref i2) ∧ (∃ x y, IsTupOf2 h TO x y) ∧ h.IsTupleIter i1 a i ∧ h.IsListIter i2 b i) where
  mem := by simp
  obj := fun i h st c hc => by
    obtain ⟨hz, hTI, ⟨x, y, hTO⟩, ⟨o1, e1, _, d1⟩, ⟨o2, e2, _, d2⟩⟩ := st
    have e' : c = z ∨ c = TI ∨ c = TO ∨ c = i1 ∨ c = i2 := by simpa using hc
    rcases e' with q | q | q | q | q
    · rw [q]; exact ⟨_, hz, fun v q => nomatch q⟩
    · rw [q]; exact ⟨_, hTI, fun v q => nomatch q⟩
    · rw [q]; exact ⟨_, hTO, fun v q => nomatch q⟩
    · rw [q]; exact ⟨o1, e1, fun v q => by rw [d1] at q; cases q⟩
    · rw [q]; exact ⟨o2, e2, fun v q => by rw [d2] at q; cases q⟩
  keep := fun i h h' st k => by
    obtain ⟨hz, hTI, ⟨x, y, hTO⟩, h1, h2⟩ := st
    exact ⟨k z (by simp) _ hz, k TI (by simp) _ hTI, ⟨x, y, k TO (by simp) _ hTO⟩, h1.at fun o q => k i1 (by simp) o q, h2.at fun o q => k i2 (by simp) o q⟩
  item := by
    intro X hP hw hK hc i pins s σ H E I hf st hg
    subst hP hw hK
    obtain ⟨hz, hTI, hTO, h1, h2⟩ := st
    obtain ⟨xs, ys, x, y, hqx, hqy, hx, hy⟩ := hg
    obtain ⟨its, rv, p, _⟩ := I.tuple hqx
    obtain ⟨its2, rv2, p2, _⟩ := I.list hqy
    obtain ⟨u, hu, ru⟩ := rv.get hx
    obtain ⟨u2, hu2, ru2⟩ := rv2.get hy
    have hh : X.A.in1.handled = none := I.ok.hd hc
    have W := WalksT.zipD2 (prog := X.prog) (w := X.w) (A := X.A) (sepM D) (Draws.tuple hh i1 a D.l1i1 its.toArray) (Draws.list hh i2 b D.l2i2 its2.toArray)
    have l1 := (List.getElem?_eq_some_iff.mp hu).1
    have l2 := (List.getElem?_eq_some_iff.mp hu2).1
    refine W.item i s _ E (by simp; omega) ⟨hz, hTI, hTO, ⟨h1, p⟩, ⟨h2, p2.isList⟩⟩ fun T vals h' tk ⟨x1, x2, e1, e2, ev⟩ hT0 hT hmid hk => ?_
    subst ev
    have q1 : x1 = u := by
      have : its.toArray[i]? = some x1 := e1
      rw [List.getElem?_toArray, hu] at this
      exact (Option.some.inj this).symm
    have q2 : x2 = u2 := by
      have : its2.toArray[i]? = some x2 := e2
      rw [List.getElem?_toArray, hu2] at this
      exact (Option.some.inj this).symm
    subst q1 q2
    refine ⟨.ref T, rfl, ?_⟩
    have hap := W.apart i T h' hmid
    refine W.go elts kk tpos i T { s with heap := h', toks := tk } _ E hmid fun h'' st'' hk' => ?_
    have hT2 : h''.IsTuple T #[x1, x2] := hT.at fun o e => hk' T o hap e
    have new : ObjOk X.prog X.w (upd H T (.tup [x, y])) h'' T (.tup [x, y]) := ⟨by show 2 ≤ sizeLine; decide, [x1, x2], .cons ru (.cons ru2 .nil), by
      obtain ⟨o, ho, hc2, hd⟩ := hT2
      exact ⟨o, ho, hc2, hd⟩⟩
    have I1 : Inv X pins σ (upd H T (.tup [x, y])) { s with heap := h'', toks := tk } :=
      I.turnedNew (t' := tk) (ch := [z, TO, i1, i2]) (fun c o hb q => hk' c o hb (hk c o hb q)) (fun c hcm => hf c (by
        have e' : c = z ∨ c = TO ∨ c = i1 ∨ c = i2 := by simpa using hcm
        rcases e' with q | q | q | q <;> simp [q])) hT0 new
    obtain ⟨a1, a2, a3, a4, a5⟩ := st''
    refine ⟨.ref T, _, I1, rfl, ⟨T, x, y, rfl, I.hok.fresh hT0, rfl, fun l hl => by rw [I.tuple_inj hl hqx]; exact hx, fun l hl => by rw [I.list_inj hl hqy]; exact hy⟩, ⟨a1, a2, a3, a4.1, a5.1⟩, fun c hcm => ?_⟩
    have hlt : c < s.heap.objs.size := by
      have e' : c = z ∨ c = TI ∨ c = TO ∨ c = i1 ∨ c = i2 := by simpa using hcm
      obtain ⟨x0, y0, hTO⟩ := hTO
      rcases e' with q | q | q | q | q
      · rw [q]; exact Heap.lt_size hz
      · rw [q]; exact Heap.lt_size hTI
      · rw [q]; exact Heap.lt_size hTO
      · rw [q]; obtain ⟨_, e1, _⟩ := h1; exact Heap.lt_size e1
      · rw [q]; obtain ⟨_, e2, _⟩ := h2; exact Heap.lt_size e2
    rw [upd_ne (Nat.ne_of_lt (Nat.lt_of_lt_of_le hlt hT0))]
    exact (hf c hcm).1
  done := by
    intro X hP hw hK hc i pins s σ H E I hf st hg
    subst hP hw hK
    obtain ⟨hz, hTI, hTO, h1, h2⟩ := st
    obtain ⟨xs, ys, hqx, hqy, hend⟩ := hg
    obtain ⟨its, rv, p, _⟩ := I.tuple hqx
    obtain ⟨its2, rv2, p2, _⟩ := I.list hqy
    have l1 := rv.length
    have l2 := rv2.length
    have hh : X.A.in1.handled = none := I.ok.hd hc
    have W := WalksT.zipD2 (prog := X.prog) (w := X.w) (A := X.A) (sepM D) (Draws.tuple hh i1 a D.l1i1 its.toArray) (Draws.list hh i2 b D.l2i2 its2.toArray)
    have hi : i = min its.toArray.size its2.toArray.size := by simp; omega
    subst hi
    refine W.done s _ E ⟨hz, hTI, hTO, ⟨h1, p⟩, ⟨h2, p2.isList⟩⟩ fun h' tk hk => ⟨rfl, I.turnedL (t' := tk) (ch := [z, TO, i1, i2]) (fun c o hb q => hk c o hb q) fun c hcm => hf c (by
        have e' : c = z ∨ c = TO ∨ c = i1 ∨ c = i2 := by simpa using hcm
        rcases e' with q | q | q | q <;> simp [q])⟩
  self := fun A i s Q E st h => wpAny_pyIter_zip st.1 h
def iZipM (K : PySem.W.Frag) (ta : TA) : TI := fun σ H R => ta σ H fun vs H1 => ∃ a b xs ys, vs = [.ref a, .ref b] ∧ SqT K H1 a xs ∧ SqL K H1 b ys ∧ R (ItzM K a b) H1
theorem pi_zipM {X : Cx} {e e2 : Expr} {ta : TA} {p pos tpos : Pos} {elts : List Expr} {kk : Nat} (hg : Gl X "zip") (hm : X.mg "zip" = none) (ha : PA X [e, e2] ta)
    (hs : starEach [e, e2] X.env = (false, eval e X.env) :: starEach [e2] X.env := by rfl) (hpl : (backTo pos (starEach [e2] X.env)).any (·.1) = false := by rfl) :
    PI X (.Tuple elts kk tpos) (.Call (.Name "zip" p) [e, e2] [] pos) (iZipM X.K ta) := by
  refine ⟨fun pins s σ H R I h => ?_⟩
  refine Call_ (ld_blt I hg hm PyProof.Rows.boot_zip (PyProof.Rows.callWith_type1 (thn (ha.run pos pins s σ H _ I h) fun us s1 ⟨vs, H1, I1, r1, q1⟩ => ?_) hs hpl))
  obtain ⟨a, b, xs, ys, ex, hqx, hqy, q⟩ := q1
  subst ex
  obtain ⟨v1, v2, rfl, ra, rb⟩ := vals2 r1
  cases ra
  cases rb
  obtain ⟨its, rv, p1, _⟩ := I1.tuple hqx
  obtain ⟨its2, rv2, p2, _⟩ := I1.list hqy
  have la : a < s1.heap.objs.size := p1.lt
  have lb : b < s1.heap.objs.size := p2.lt
  refine zip_begins2 (begins_tuple a its.toArray) (begins_list b its2.toArray) p1 p2.isList fun h' hz hTI hTO h1 h2 hsz hk => wpAny_pyIter_zip hz ?_
  have I2 : Inv X pins σ H1 { s1 with heap := h' } := I1.kept (t' := s1.toks) hk
  refine ⟨s1.heap.objs.size + 4, [s1.heap.objs.size + 4, s1.heap.objs.size + 2, s1.heap.objs.size + 3, s1.heap.objs.size, s1.heap.objs.size + 1], _, _, H1, rfl, I2, turn_zipM (PySem.W.ktu_apart s1.heap.objs.size a b la lb), ⟨hz, hTI, ⟨_, _, hTO⟩, ⟨_, h1, rfl, rfl⟩, ⟨_, h2, rfl, rfl⟩⟩, fun c hcm => ?_, q⟩
  have e' : c = s1.heap.objs.size + 4 ∨ c = s1.heap.objs.size + 2 ∨ c = s1.heap.objs.size + 3 ∨ c = s1.heap.objs.size ∨ c = s1.heap.objs.size + 1 := by simpa using hcm
  have hle : s1.heap.objs.size ≤ c := by
    rcases e' with z | z | z | z | z
    · rw [z]; exact Nat.le_add_right _ _
    · rw [z]; exact Nat.le_add_right _ _
    · rw [z]; exact Nat.le_add_right _ _
    · rw [z]; exact Nat.le_refl _
    · rw [z]; exact Nat.le_add_right _ _
  exact I1.fpOk hle (I1.hok.fresh hle)
theorem walk_zipM {K : PySem.W.Frag} {c : Cs} {B G : Hp} {a b : Addr} {vs ws : List V} {ds es : List D} (h : SqT K G a vs) (h' : SqL K G b ws) (r : RepL K c B ds vs) (r' : RepL K c B es ws) : WalkD K c B G (ItzM K a b) ((ds.zip es).map fun p => .tup [p.1, p.2]) where
  go := fun i H d s e => by
    rw [List.getElem?_map] at e
    cases hz : (ds.zip es)[i]? with
    | none => rw [hz] at e; cases e
    | some p =>
      rw [hz] at e
      cases e
      obtain ⟨d1, d2⟩ := p
      have hz' := hz
      rw [List.getElem?_zip_eq_some] at hz'
      obtain ⟨e1, e2⟩ := hz'
      obtain ⟨v, hv, hr⟩ := r.get e1
      obtain ⟨w, hw, hr'⟩ := r'.get e2
      refine ⟨⟨vs, ws, v, w, VL.SqT.up s h, s.seq h', hv, hw⟩, fun x H' B1 y sb sh => ?_⟩
      obtain ⟨T, x0, y0, rfl, hT, rfl, f1, f2⟩ := y
      have q1 := f1 vs (VL.SqT.up s h)
      rw [hv] at q1
      cases q1
      have q2 := f2 ws (s.seq h')
      rw [hw] at q2
      cases q2
      have ub := (Up.new (o := .tup [v, w]) sh hT).b
      exact ⟨_, Up.new sh hT, .tup upd_same (.cons ((hr.up sb).up ub) (.cons ((hr'.up sb).up ub) .nil))⟩
  stop := fun i H s e => ⟨vs, ws, VL.SqT.up s h, s.seq h', by
    simp at e
    rw [← r.length, ← r'.length]
    omega⟩
def gzipM : List D → R (List D) := fun ds => match ds with
  | [.ct xs, .lst ys] => .ok ((xs.zip ys).map fun p => .tup [p.1, p.2])
  | [.tup xs, .lst ys] => .ok ((xs.zip ys).map fun p => .tup [p.1, p.2])
  | _ => .no
section
variable {X : Cx} {W : Ws} {e e2 : Expr} {tA : TA} {fn : En → R (List D)} {p pos tpos : Pos} {elts : List Expr} {kk : Nat}
theorem gzipM_er (ds : List D) (C : Addr) : gzipM ds ≠ .er C := fun h => by
  unfold gzipM at h
  split at h <;> cases h
theorem vi_zipM (hm : X.mg "zip" = none) (ha : VA X W [e, e2] tA fn) (hp : PA X [e, e2] tA → PI X (.Tuple elts kk tpos) (.Call (.Name "zip" p) [e, e2] [] pos) (iZipM X.K tA)) : VI X W (.Tuple elts kk tpos) (.Call (.Name "zip" p) [e, e2] [] pos) (iZipM X.K tA) (fun ρ => (fn ρ).bind gzipM) :=
  ⟨hp ha.pe, fun Fo B H ρ σ Rr rs q => vi_args (r := fun vs H1 R => ∃ a b xs ys, vs = [.ref a, .ref b] ∧ SqT X.K H1 a xs ∧ SqL X.K H1 b ys ∧ R (ItzM X.K a b) H1) ha (fun B H vs ds xs Rr s hr hx k => by
    unfold gzipM at hx
    split at hx
    · cases hx
      obtain ⟨v, w, rfl, hv, hw⟩ := repL_2 hr
      cases hv with
      | ct h1 h2 => cases hw with
        | lst h3 h4 => exact ⟨_, _, _, _, rfl, VL.SqT.up s h1, SqL.of (s _ _ h3), k _ (walk_zipM h1 (SqL.of h3) h2 h4)⟩
    · cases hx
      obtain ⟨v, w, rfl, hv, hw⟩ := repL_2 hr
      cases hv with
      | tup h1 h2 => cases hw with
        | lst h3 h4 => exact ⟨_, _, _, _, rfl, SqT.of (s _ _ h1), SqL.of (s _ _ h3), k _ (walk_zipM (SqT.of h1) (SqL.of h3) h2 h4)⟩
    · cases hx) gzipM_er rs q⟩
end
theorem gzipM_c (xs ys : List D) : gzipM [.ct xs, .lst ys] = .ok ((xs.zip ys).map fun p => .tup [p.1, p.2]) := rfl
end VL
set_option maxRecDepth 100000
set_option maxHeartbeats 4000000
namespace VL
open PySem PySem.Spec PyProof.Rows L2

/-! ### one of two ways -/
def orR {α : Type} (a b : R α) : R α := match a with
  | .no => b
  | x => x
section
variable {X : Cx} {W : Ws} {tg l : Expr} {w1 w2 : TI} {f1 f2 : En → R (List D)} {g1 g2 : TG} {h1 h2 : D → En → Option En} {s1 : List Nat} {pos : Pos}
theorem vi_or (a : VI X W tg l w1 f1) (b : VI X W tg l w2 f2) : VI X W tg l (fun σ H R => w1 σ H R ∨ w2 σ H R) (fun ρ => orR (f1 ρ) (f2 ρ)) :=
  ⟨⟨fun pins s σ H R I h => h.elim (a.pi.run pins s σ H R I) (b.pi.run pins s σ H R I)⟩, fun Fo B H ρ σ Rr rs q => by
    cases e : f1 ρ with
    | no => rw [e] at q; exact .inr (b.ok Fo B H ρ σ Rr rs q)
    | ok d => exact .inl (a.ok Fo B H ρ σ Rr rs (by rw [e] at q ⊢; exact q))
    | er C => exact .inl (a.ok Fo B H ρ σ Rr rs (by rw [e] at q ⊢; exact q))⟩
theorem vip_or (a : VIP X W tg l w1 f1) (b : VIP X W tg l w2 f2) : VIP X W tg l (fun σ H R => w1 σ H R ∨ w2 σ H R) (fun ρ => orR (f1 ρ) (f2 ρ)) :=
  ⟨⟨fun pins s σ H R I h => h.elim (a.pi.run pins s σ H R I) (b.pi.run pins s σ H R I)⟩, fun Fo B H ρ σ Rr rs q => by
    cases e : f1 ρ with
    | no => rw [e] at q; exact .inr (b.ok Fo B H ρ σ Rr rs q)
    | ok d => exact .inl (a.ok Fo B H ρ σ Rr rs (by rw [e] at q ⊢; exact q))
    | er C => exact .inl (a.ok Fo B H ρ σ Rr rs (by rw [e] at q ⊢; exact q))⟩
theorem vg_or (a : VG X W tg g1 h1 s1) (b : VG X W tg g2 h2 s1) : VG X W tg (fun v σ H Q => g1 v σ H Q ∨ g2 v σ H Q) (fun d ρ => (h1 d ρ).or (h2 d ρ)) s1 :=
  ⟨⟨fun pins s σ H v u Q I r h => h.elim (a.pg.run pins s σ H v u Q I r) (b.pg.run pins s σ H v u Q I r)⟩, fun Fo B H ρ σ d v ρ' Q rs hv e q => by
    cases e1 : h1 d ρ with
    | none => rw [e1] at e; exact .inr (b.ok Fo B H ρ σ d v ρ' Q rs hv e q)
    | some x => rw [e1] at e; cases e; exact .inl (a.ok Fo B H ρ σ d v _ Q rs hv e1 q)⟩
end
/-! ### a list or a tuple walked -/
def dISeq (f : En → R D) : En → R (List D) := fun ρ => (f ρ).bind fun d => ofO (items d)
theorem dISeq_eq (f : En → R D) : (fun ρ => orR (dIList f ρ) (dITup f ρ)) = dISeq f := by
  funext ρ
  unfold dIList dITup dISeq
  cases f ρ with
  | no => rfl
  | er C => rfl
  | ok d => cases d <;> rfl
/-- .. unpacked -/
def fSeq (n : Nat) (h : List D → En → Option En) : D → En → Option En := fun d ρ => match items d with
  | some ds => if ds.length = n then h ds ρ else none
  | none => none
section
variable {X : Cx} {W : Ws} {tg l : Expr} {tl : TE} {f : En → R D} {gs : TGs} {hf : List D → En → Option En} {s1 : List Nat} {pos : Pos}
theorem vi_seq (h : VE X W l tl f) : VI X W tg l (fun σ H R => iList X.K tl σ H R ∨ iTup X.K tl σ H R) (dISeq f) := dISeq_eq f ▸ vi_or (vi_list h) (vi_tup h)
theorem vip_tup (h : VP X W l tl f) : VIP X W tg l (iTup X.K tl) (dITup f) := ⟨pi_tup h.pe, fun Fo B H ρ σ Rr r q => by
  unfold dITup at q
  refine h.ok Fo B H ρ σ _ r ?_
  cases e : f ρ with
  | no => rw [e] at q; exact q
  | er C => rw [e] at q; exact q
  | ok d =>
    rw [e, R.bind_ok] at q
    intro v B' H' u hv
    rcases hv with hv | ⟨xs, p, vs, rfl, rfl, a1, a2⟩
    · cases hv with
      | tup h1 h2 => exact ⟨_, rfl, ⟨_, SqT.of (u.bh _ _ h1)⟩, q _ B' H' u (walk_tupT (SqT.of (u.bh _ _ h1)) h2)⟩
      | ct h1 h2 => exact ⟨_, rfl, ⟨_, VL.SqT.up u.bh h1⟩, q _ B' H' u (walk_tupT (VL.SqT.up u.bh h1) h2)⟩
      | _ => exact q.elim
    · exact q.elim⟩
theorem vip_seq (h : VP X W l tl f) : VIP X W tg l (fun σ H R => iList X.K tl σ H R ∨ iTup X.K tl σ H R) (dISeq f) := dISeq_eq f ▸ vip_or (vip_list h) (vip_tup h)
theorem vg_lst' {es : List Expr} {k n : Nat} (hc : X.calm = true) (h : VGs X W es gs hf s1) (hn : (assignEach es X.env).length = n := by rfl) (hst : (assignEach es X.env).findIdx? (·.1) = none := by rfl) :
    VG X W (.Tuple es k pos) (gLst X.K n gs) (fun d ρ => match d with
      | .lst ds => if ds.length = n then hf ds ρ else none
      | .ro ds => if ds.length = n then hf ds ρ else none
      | _ => none) s1 := ⟨pg_lst hc h.pg hn hst, fun Fo B H ρ σ d v ρ' Q r hv e q => by
  cases hv with
  | @lst a vs xs hb hr =>
    dsimp only at e
    split at e
    · rename_i hl
      exact ⟨a, vs, rfl, SqL.of (r.bh _ _ hb), hr.length.symm.trans hl, h.ok Fo B H ρ σ xs vs ρ' Q r hr e q⟩
    · cases e
  | @ro a vs xs hb hr =>
    dsimp only at e
    split at e
    · rename_i hl
      exact ⟨a, vs, rfl, r.bh.seq hb, hr.length.symm.trans hl, h.ok Fo B H ρ σ xs vs ρ' Q r hr e q⟩
    · cases e
  | _ => cases e⟩
theorem vg_seq {es : List Expr} {k n : Nat} (K : PySem.W.Frag) (hK : X.K = K) (hc : X.calm = true) (h : VGs X W es gs hf s1) (hn : (assignEach es X.env).length = n := by rfl) (hst : (assignEach es X.env).findIdx? (·.1) = none := by rfl) :
    VG X W (.Tuple es k pos) (fun v σ H Q => gLst K n gs v σ H Q ∨ gTup K n gs v σ H Q) (fSeq n hf) s1 := by
  subst hK
  have e := vg_or (vg_lst' (pos := pos) (k := k) hc h hn hst) (vg_tup (pos := pos) (k := k) hc h hn hst)
  refine ⟨e.pg, fun Fo B H ρ σ d v ρ' Q r hv e2 q => e.ok Fo B H ρ σ d v ρ' Q r hv ?_ q⟩
  rw [← e2]
  unfold fSeq fTup items
  cases d <;> simp
end
/-! ### zip -/
def gzipU : List D → R (List D) := fun ds => orR (gzip ds) (gzipM ds)
section
variable {X : Cx} {W : Ws} {e e2 : Expr} {tA : TA} {fn : En → R (List D)} {p pos tpos : Pos} {elts : List Expr} {kk : Nat}
theorem orR_bind (fn : En → R (List D)) : (fun ρ => orR ((fn ρ).bind gzip) ((fn ρ).bind gzipM)) = (fun ρ => (fn ρ).bind gzipU) := by
  funext ρ
  cases fn ρ <;> rfl
theorem vi_zipU (hm : X.mg "zip" = none) (ha : VA X W [e, e2] tA fn) (hp : PA X [e, e2] tA → PI X (.Tuple elts kk tpos) (.Call (.Name "zip" p) [e, e2] [] pos) (iZip X.K tA)) (hp' : PA X [e, e2] tA → PI X (.Tuple elts kk tpos) (.Call (.Name "zip" p) [e, e2] [] pos) (iZipM X.K tA)) :
    VI X W (.Tuple elts kk tpos) (.Call (.Name "zip" p) [e, e2] [] pos) (fun σ H R => iZip X.K tA σ H R ∨ iZipM X.K tA σ H R) (fun ρ => (fn ρ).bind gzipU) := orR_bind fn ▸ vi_or (vi_zip hm ha hp) (vi_zipM hm ha hp')
end
theorem gzipU_l (xs ys : List D) : gzipU [.lst xs, .lst ys] = .ok ((xs.zip ys).map fun p => .tup [p.1, p.2]) := rfl
theorem gzipU_c (xs ys : List D) : gzipU [.ct xs, .lst ys] = .ok ((xs.zip ys).map fun p => .tup [p.1, p.2]) := rfl
theorem gzipU_t (xs ys : List D) : gzipU [.tup xs, .lst ys] = .ok ((xs.zip ys).map fun p => .tup [p.1, p.2]) := rfl
end VL
namespace VL
open PySem PySem.Spec PyProof.Rows L2
/-- a value of the top is this number, text, .. -/
def chk1 : Value → D → Bool
  | .int i _, .int j => i == j
  | .str s _, .str t => s == t
  | .bool a, .bl b => a == b
  | .none, .non => true
  | _, _ => false
def chk : List Value → List D → Bool
  | [], [] => true
  | u :: us, d :: ds => chk1 u d && chk us ds
  | _, _ => false
theorem chk1_ok {K : PySem.W.Frag} {c : Cs} {B : Hp} {u : Value} {d : D} (h : chk1 u d = true) : ∃ v, RelV v u ∧ Rep K c B d v := by
  unfold chk1 at h
  split at h
  · have e := eq_of_beq h
    subst e
    exact ⟨.int _, ⟨_, rfl⟩, .int _⟩
  · have e := eq_of_beq h
    subst e
    exact ⟨.str _, ⟨_, rfl⟩, .str _⟩
  · have e := eq_of_beq h
    subst e
    exact ⟨.bl _, rfl, .bl _⟩
  · exact ⟨.non, rfl, .non⟩
  · cases h
theorem chk_ok {K : PySem.W.Frag} {c : Cs} {B : Hp} : ∀ {us : List Value} {ds : List D}, chk us ds = true → ∃ vs, Vals vs us ∧ RepL K c B ds vs
  | [], [], _ => ⟨[], .nil, .nil⟩
  | u :: us, d :: ds, h => by
    unfold chk at h
    rw [Bool.and_eq_true] at h
    obtain ⟨v, a, b⟩ := chk1_ok (K := K) (c := c) (B := B) h.1
    obtain ⟨vs, a', b'⟩ := chk_ok (K := K) (c := c) (B := B) h.2
    exact ⟨v :: vs, .cons a a', .cons b b'⟩
  | [], _ :: _, h => by cases h
  | _ :: _, [], h => by cases h
end VL
set_option maxRecDepth 100000
set_option maxHeartbeats 1000000
namespace VL
open PySem PySem.Spec PyProof.Rows L2

/-! ### bits -/
theorem disj_add {x y : Nat} (h : x &&& y = 0) : x + y = x ||| y := by
  have hlt : x + y < 2 ^ (x + y) := Nat.lt_two_pow_self
  have hx : x < 2 ^ (x + y) := by omega
  have hy : y < 2 ^ (x + y) := by omega
  have e := BitVec.add_eq_or_of_and_eq_zero (BitVec.ofNat (x + y) x) (BitVec.ofNat (x + y) y) (by
    apply BitVec.eq_of_toNat_eq
    rw [BitVec.toNat_and, BitVec.toNat_ofNat, BitVec.toNat_ofNat, Nat.mod_eq_of_lt hx, Nat.mod_eq_of_lt hy, h]
    simp)
  have e2 := congrArg BitVec.toNat e
  rw [BitVec.toNat_add, BitVec.toNat_or, BitVec.toNat_ofNat, BitVec.toNat_ofNat, Nat.mod_eq_of_lt hx, Nat.mod_eq_of_lt hy, Nat.mod_eq_of_lt hlt] at e2
  exact e2
theorem or_parts (a b : Nat) : a ||| b = (a ^^^ b) + (a &&& b) := by
  rw [disj_add]
  · apply Nat.eq_of_testBit_eq
    intro i
    simp only [Nat.testBit_or, Nat.testBit_xor, Nat.testBit_and]
    cases a.testBit i <;> cases b.testBit i <;> rfl
  · apply Nat.eq_of_testBit_eq
    intro i
    simp only [Nat.testBit_xor, Nat.testBit_and, Nat.zero_testBit]
    cases a.testBit i <;> cases b.testBit i <;> rfl
theorem b_and (a b : Nat) : Builtin.bitAnd (a : Int) (b : Int) = ((a &&& b : Nat) : Int) := by rw [bitAnd_pp (Int.natCast_nonneg a) (Int.natCast_nonneg b), Int.toNat_natCast, Int.toNat_natCast]
theorem b_or (a b : Nat) : Builtin.bitOr (a : Int) (b : Int) = ((a ||| b : Nat) : Int) := by
  rw [bitOr_nn (by omega) (by omega)]
  simp
theorem b_xor (a b : Nat) : Builtin.bitXor (a : Int) (b : Int) = ((a ^^^ b : Nat) : Int) := by
  have e : Builtin.bitXor (a : Int) (b : Int) = Builtin.bitOr (a : Int) (b : Int) - Builtin.bitAnd (a : Int) (b : Int) := rfl
  rw [e, b_or, b_and, or_parts]
  omega
/-- (~e) & g -/
theorem nat_andnot {e g : Nat} (he : e < 4294967296) (hg : g < 4294967296) : (g &&& e) + ((4294967295 - e) &&& g) = g := by
  have h0 : 4294967295 - e = 2 ^ 32 - (e + 1) := by omega
  have tb := Nat.testBit_two_pow_sub_succ (x := e) (n := 32) he
  have hb : ∀ i, 32 ≤ i → g.testBit i = false := fun i hi => Nat.testBit_lt_two_pow (Nat.lt_of_lt_of_le hg (Nat.pow_le_pow_right (n := 2) (by decide) hi : 2 ^ 32 ≤ 2 ^ i))
  rw [disj_add]
  · apply Nat.eq_of_testBit_eq
    intro i
    rw [h0]
    simp only [Nat.testBit_or, Nat.testBit_and, tb]
    by_cases hi : i < 32
    · simp only [hi, decide_true, Bool.true_and]
      cases e.testBit i <;> cases g.testBit i <;> rfl
    · rw [hb i (by omega)]
      simp
  · apply Nat.eq_of_testBit_eq
    intro i
    rw [h0]
    simp only [Nat.testBit_and, tb, Nat.zero_testBit]
    by_cases hi : i < 32
    · simp only [hi, decide_true, Bool.true_and]
      cases e.testBit i <;> cases g.testBit i <;> rfl
    · rw [hb i (by omega)]
      simp
theorem b_andnot {e g : Nat} (he : e < 4294967296) (hg : g < 4294967296) : Builtin.bitAnd (Builtin.bitNot (e : Int)) (g : Int) = (((4294967295 - e) &&& g : Nat) : Int) := by
  have e1 : Builtin.bitAnd (Builtin.bitNot (e : Int)) (g : Int) = (g : Int) - ((g &&& e : Nat) : Int) := by
    have d1 : decide ((0 : Int) ≤ Builtin.bitNot (e : Int)) = false := decide_eq_false (by show ¬ (0 ≤ -(e : Int) - 1); omega)
    have d2 : decide ((0 : Int) ≤ (g : Int)) = true := decide_eq_true (by omega)
    show Builtin.bitAnd _ _ = _
    unfold Builtin.bitAnd
    rw [d1, d2]
    have : (Builtin.bitNot (Builtin.bitNot (e : Int))).toNat = e := by
      show (-(-(e : Int) - 1) - 1).toNat = e
      omega
    dsimp only
    rw [this, Int.toNat_natCast]
  rw [e1]
  have := nat_andnot he hg
  omega
theorem b_full (x : Nat) : Builtin.bitAnd (x : Int) 4294967295 = ((x % 4294967296 : Nat) : Int) := by
  rw [bitAnd_m32]
  omega
/-! ### operators on numbers from 0 -/
theorem gShr_n {e k : Nat} {i : Int} (h : i = (k : Int)) : gShr (.int (e : Int)) (.int i) = some (.int ((e >>> k : Nat) : Int)) := by
  subst h
  rw [gShr_i (by omega), Int.toNat_natCast, Nat.shiftRight_eq_div_pow]
  congr 2
theorem gShl_n {e k : Nat} {i : Int} (h : i = (k : Int)) (hk : k ≤ 64) (he : e < 18446744073709551616) : gShl (.int (e : Int)) (.int i) = some (.int ((e <<< k : Nat) : Int)) := by
  subst h
  rw [gShl_i ⟨by omega, by omega, by rw [Int.natAbs_natCast]; exact he⟩, Int.toNat_natCast, Nat.shiftLeft_eq]
  congr 2
theorem gOr_n (a b : Nat) : gOr (.int (a : Int)) (.int (b : Int)) = some (.int ((a ||| b : Nat) : Int)) := by rw [gOr_i, b_or]
theorem gAnd_n (a b : Nat) : gAnd (.int (a : Int)) (.int (b : Int)) = some (.int ((a &&& b : Nat) : Int)) := by rw [gAnd_i, b_and]
theorem gXor_n (a b : Nat) : gXor (.int (a : Int)) (.int (b : Int)) = some (.int ((a ^^^ b : Nat) : Int)) := by rw [gXor_i, b_xor]
theorem gAdd_n (a b : Nat) : gAdd (.int (a : Int)) (.int (b : Int)) = some (.int ((a + b : Nat) : Int)) := by rw [gAdd_i]; rfl
theorem gFull_n (a : Nat) : gAnd (.int (a : Int)) (.int 4294967295) = some (.int ((a % 4294967296 : Nat) : Int)) := by rw [gAnd_i, b_full]
theorem gAndNot_n {e g : Nat} (he : e < 4294967296) (hg : g < 4294967296) : gAnd (.int (Builtin.bitNot (e : Int))) (.int (g : Int)) = some (.int (((4294967295 - e) &&& g : Nat) : Int)) := by rw [gAnd_i, b_andnot he hg]
theorem gMod_n {a b : Nat} {i : Int} (h : i = (b : Int)) (hb : 0 < b) : gMod (.int (a : Int)) (.int i) = some (.int ((a % b : Nat) : Int)) := by
  subst h
  rw [gMod_i (by omega)]
  rfl
/-! ### lists of numbers from 0 -/
def nL (xs : List Nat) : List D := xs.map fun (n : Nat) => D.int (n : Int)
theorem nL_iL (xs : List Nat) : nL xs = iL (xs.map fun (n : Nat) => (n : Int)) := by simp [nL, iL]
theorem nL_len (xs : List Nat) : (nL xs).length = xs.length := by simp [nL]
theorem nL_get (xs : List Nat) (i : Nat) : (nL xs)[i]? = (xs[i]?).map fun (n : Nat) => D.int (n : Int) := by simp [nL]
theorem nL_app (xs : List Nat) (y : Nat) : nL xs ++ [.int (y : Int)] = nL (xs ++ [y]) := by simp [nL]
def g0 (xs : List Nat) (i : Nat) : Nat := xs[i]?.getD 0
theorem g0_of {xs : List Nat} {i : Nat} (h : i < xs.length) : xs[i]? = some (g0 xs i) := by
  unfold g0
  rw [List.getElem?_eq_getElem h]
  rfl
theorem gIx_n {xs : List Nat} {k : Nat} {i : Int} (h : i = (k : Int)) (hk : k < xs.length) : gIx (.lst (nL xs)) (.int i) = some (.int (g0 xs k : Nat)) := by
  subst h
  rw [gIx_l (by omega) (by rw [nL_len]; omega), Int.toNat_natCast, nL_get, g0_of hk]
  rfl
theorem g0_all {xs : List Nat} {P : Nat → Prop} (h : ∀ x ∈ xs, P x) {k : Nat} (hk : k < xs.length) : P (g0 xs k) := by
  have := g0_of hk
  exact h _ (List.mem_of_getElem? this)
theorem sz0 : 0 ≤ sizeLine := line_le (by decide)
theorem sz1 : 1 ≤ sizeLine := line_le (by decide)
theorem sz2 : 2 ≤ sizeLine := line_le (by decide)
theorem sz3 : 3 ≤ sizeLine := line_le (by decide)
theorem sz4 : 4 ≤ sizeLine := line_le (by decide)
theorem sz5 : 5 ≤ sizeLine := line_le (by decide)
theorem sz6 : 6 ≤ sizeLine := line_le (by decide)
theorem sz7 : 7 ≤ sizeLine := line_le (by decide)
theorem sz8 : 8 ≤ sizeLine := line_le (by decide)
theorem sz9 : 9 ≤ sizeLine := line_le (by decide)
theorem sz10 : 10 ≤ sizeLine := line_le (by decide)
theorem sz11 : 11 ≤ sizeLine := line_le (by decide)
theorem sz12 : 12 ≤ sizeLine := line_le (by decide)
end VL
set_option maxRecDepth 100000
set_option maxHeartbeats 4000000
namespace VL
open PySem PySem.Spec PyProof.Rows L2

/-! ### own errors raised -/
/-- x names an own class of errors, the n-th -/
structure ExcAt (K : PySem.W.Frag) (c : Cs) (mg : Str → Option Value) (x : Str) (n : Nat) : Prop where
  g : mg x = some (.ref (c.cl n))
  q : PySem.W.excIn K (c.cl n) [.type "ValueError", .type "Exception", .type "BaseException", .type "object"] "ValueError.__new__" = true
  k : PySem.W.keepIn K (.ref (c.cl n)) = true
  s : PySem.W.subIn K (.ref (c.cl n)) (.type "BaseException") = some true
  t : PySem.W.typeIn K (.ref (c.cl n)) = some (.type "type")
def gErr (n : Nat) : En → Out := fun ρ => .er n ρ
theorem vs_raise {X : Cx} {W : Ws} {x m : Str} {n j : Nat} {p p2 pos pos' : Pos} (C : Ctx X W) (h : ExcAt X.K W.c X.mg x n) (hg : Gl X x := by rfl) (hdb : (x == ("__debug__" : Str)) = false := by decide) :
    VS X W (.Raise (some (.Call (.Name x p) [.Constant (.str m) j p2] [] pos)) none pos') (fun _ σ H => W.W (.ref (W.c.cl n)) none σ H) (gErr n) :=
  ⟨ps_raise C.calm C.tk (pmk_own PySem.F.excBase_ValueError h.q h.g h.k (raises_own h.s h.t) hg hdb), fun Fo B H ρ σ D r q => q B H σ (Same.refl _) r⟩

/-! ### without a caught error in it -/
mutual
def noX : D → Bool
  | .exc _ => false
  | .lst xs => noXL xs
  | .tup xs => noXL xs
  | .ro xs => noXL xs
  | .ct xs => noXL xs
  | .obj _ fs => noXF fs
  | _ => true
def noXL : List D → Bool
  | [] => true
  | d :: ds => noX d && noXL ds
def noXF : List (Str × D) → Bool
  | [] => true
  | (_, d) :: ds => noX d && noXF ds
end
section
variable {K : PySem.W.Frag} {c c' : Cs} {B : Hp}
mutual
theorem Rep.chg (e : c'.cl = c.cl) : ∀ {d : D} {v : V}, Rep K c B d v → (noX d = true ∨ ∀ a n, c.ex a n → c'.ex a n) → Rep K c' B d v
  | _, _, .non, _ => .non
  | _, _, .bl b, _ => .bl b
  | _, _, .int i, _ => .int i
  | _, _, .str s, _ => .str s
  | _, _, .ref a, _ => .ref a
  | _, _, .ty n, _ => .ty n
  | _, _, .lst h r, x => .lst h (RepL.chg e r (x.imp (fun y => by simpa [noX] using y) id))
  | _, _, .tup h r, x => .tup h (RepL.chg e r (x.imp (fun y => by simpa [noX] using y) id))
  | _, _, .ro h r, x => .ro h (RepL.chg e r (x.imp (fun y => by simpa [noX] using y) id))
  | _, _, .ct h r, x => .ct h (RepL.chg e r (x.imp (fun y => by simpa [noX] using y) id))
  | _, _, .obj h r, x => .obj (by rw [e]; exact h) (RepF.chg e r (x.imp (fun y => by simpa [noX] using y) id))
  | _, _, .exc h, x => .exc (x.elim (fun y => by simp [noX] at y) (fun f => f _ _ h))
  | _, _, .cls n, _ => by rw [← e]; exact .cls n
theorem RepL.chg (e : c'.cl = c.cl) : ∀ {ds : List D} {vs : List V}, RepL K c B ds vs → (noXL ds = true ∨ ∀ a n, c.ex a n → c'.ex a n) → RepL K c' B ds vs
  | _, _, .nil, _ => .nil
  | _, _, .cons h r, x => .cons (Rep.chg e h (x.imp (fun y => by simp only [noXL, Bool.and_eq_true] at y; exact y.1) id)) (RepL.chg e r (x.imp (fun y => by simp only [noXL, Bool.and_eq_true] at y; exact y.2) id))
theorem RepF.chg (e : c'.cl = c.cl) : ∀ {ds : List (Str × D)} {vs : List (Str × V)}, RepF K c B ds vs → (noXF ds = true ∨ ∀ a n, c.ex a n → c'.ex a n) → RepF K c' B ds vs
  | _, _, .nil, _ => .nil
  | _, _, .cons h r, x => .cons (Rep.chg e h (x.imp (fun y => by simp only [noXF, Bool.and_eq_true] at y; exact y.1) id)) (RepF.chg e r (x.imp (fun y => by simp only [noXF, Bool.and_eq_true] at y; exact y.2) id))
end
def noS : Sl → Bool
  | .un => true
  | .v d => noX d
  | .o ds => noXL ds
  | .b _ fs => noXF fs
theorem RS.chg {c c' : Cs} {Fo H : Hp} {ρ : En} {σ : L2.St} (e : c'.cl = c.cl) (em : c'.me = c.me) (ed : c'.md = c.md) (r : RS K c Fo B H ρ σ) (x : ρ.all noS = true ∨ ∀ a n, c.ex a n → c'.ex a n) : RS K c' Fo B H ρ σ where
  len := r.len
  bh := r.bh
  fh := r.fh
  fb := r.fb
  vals := fun i d q => let ⟨v, h1, h2⟩ := r.vals i d q; ⟨v, h1, h2.chg e (x.imp (fun y => by
    have := List.all_eq_true.mp y _ (List.mem_of_getElem? q)
    simpa [noS] using this) id)⟩
  owns := fun i d q => let ⟨p, vs, h1, h2, h3, h4, h5⟩ := r.owns i d q; ⟨p, vs, h1, h2, h3.chg e (x.imp (fun y => by
    have := List.all_eq_true.mp y _ (List.mem_of_getElem? q)
    simpa [noS] using this) id), h4, h5⟩
  sep := r.sep
  objs := fun i C d q => let ⟨p, dx, gs, h1, h2, h3, h4, h5, h6, h7⟩ := r.objs i C d q; ⟨p, dx, gs, h1, by rw [e]; exact h2, h3.chg e (x.imp (fun y => by
    have := List.all_eq_true.mp y _ (List.mem_of_getElem? q)
    simpa [noS] using this) id), h4, h5, by rw [em]; exact h6, by rw [ed]; exact h7⟩
  sepb := r.sepb
end
/-! ### try -/
theorem rep_bl {K : PySem.W.Frag} {c : Cs} {B : Hp} {b : Bool} {v : V} (h : Rep K c B (.bl b) v) : v = .bl b := by cases h; rfl
/-- wherever the classes stand -/
def spA (K : PySem.W.Frag) (n : Nat) (f : List D → R D) : Sp := fun vs H Q E => ∀ c : Cs, spV K c n f vs H Q E
/-- where the classes stand -/
def mkC (l : List Addr) : Cs := ⟨fun n => l.getD n 0, fun _ _ => False, 0, 0⟩
def Cs.add (c : Cs) (a : Addr) (n : Nat) : Cs := ⟨c.cl, fun b m => c.ex b m ∨ (b = a ∧ m = n), c.me, c.md⟩
/-- behind the suite -/
def clean (f : En → En) : Out → Out
  | .nx ρ => if (f ρ).all noS = true then .nx (f ρ) else .no
  | .bk ρ => if (f ρ).all noS = true then .bk (f ρ) else .no
  | .ct ρ => if (f ρ).all noS = true then .ct (f ρ) else .no
  | .rt d => if noX d = true then .rt d else .no
  | .rn ds => if noXL ds = true then .rn ds else .no
  | .er _ _ => .no
  | .no => .no
/-- try: gb, except (m: which) as the slot i: gs -/
def gTryAs (i : Nat) (m : Nat → Option Bool) (gb gs : En → Out) : En → Out := fun ρ => match gb ρ with
  | .er n ρ1 => match m n with
    | some true => clean (fun ρ => ρ.set i .un) (gs (ρ1.set i (.v (.exc n))))
    | some false => .er n ρ1
    | none => .no
  | o => o
def gTry (m : Nat → Option Bool) (gb gs : En → Out) : En → Out := fun ρ => match gb ρ with
  | .er n ρ1 => match m n with
    | some true => (match gs ρ1 with
      | .er _ _ => .no
      | o => o)
    | some false => .er n ρ1
    | none => .no
  | o => o
abbrev Ws.bare (W : Ws) : Ws := ⟨fun _ _ _ _ => False, W.c⟩
abbrev Ws.exc (W : Ws) (a : Addr) (n : Nat) : Ws := ⟨fun _ _ _ _ => False, W.c.add a n⟩
section
variable {X : Cx} {W : Ws} {x n : Str} {body suite : List Stmt} {b₀ : Stmt} {np pos pos' : Pos} {gb gs : En → Out}
theorem exOb (K : Value) : ∃ oe : Obj, Zc K none oe ∧ ∃ vs, oe.data = .fields vs := ⟨⟨K, none, .fields #[], #[]⟩, ⟨rfl, rfl⟩, _, rfl⟩
theorem vs_tryAs (i : Nat) {y : Nat} {m : Nat → Option Bool} {tb : WX → List (Addr × Obj) → (Value → Shared → Prop) → TS} {ts : Addr → Nat → Obj → List (Addr × Obj) → TS} (C : Ctx X W) (g : X.mg x = some (.ref (W.c.cl y))) (hm : ∀ n b, m n = some b → PySem.W.exmOne X.K (.ref (W.c.cl n)) (.ref (W.c.cl y)) = some b)
    (hb : ∀ (W' : WX) (pn : List (Addr × Obj)) (xe : Value → Shared → Prop), Ctx (X.tr pn xe) ⟨W', W.c⟩ → VSs (X.tr pn xe) ⟨W', W.c⟩ body (tb W' pn xe) gb)
    (hsu : ∀ (a : Addr) (oe : Obj) (n : Nat) (pn : List (Addr × Obj)), m n = some true → Zc (.ref (W.c.cl n)) none oe → (∃ vs, oe.data = .fields vs) → VSs (X.suite a ((a, oe) :: pn)) (W.exc a n) (b₀ :: suite) (ts a n oe pn) gs)
    (hi : X.N[i]? = some n := by rfl) (hln : X.env.kindOf n = some .local := by rfl) (hg : Gl X x := by rfl) (hdb : (x == ("__debug__" : Str)) = false := by decide) :
    VS X W (.Try body [.ExceptHandler (some (.Name x np)) (some n) (b₀ :: suite) pos'] [] [] pos)
      (fun D σ H => ∀ pn xe, Ctx (X.tr pn xe) ⟨wAs X.K (.ref (W.c.cl y)) i (fun a cls d D σ H => ∃ n, cls = .ref (W.c.cl n) ∧ d = none ∧ m n = some true ∧ ∀ oe pn, Zc (.ref (W.c.cl n)) none oe → (∃ vs, oe.data = .fields vs) → ts a n oe pn D σ H) W.W D, W.c⟩ → tb (wAs X.K (.ref (W.c.cl y)) i (fun a cls d D σ H => ∃ n, cls = .ref (W.c.cl n) ∧ d = none ∧ m n = some true ∧ ∀ oe pn, Zc (.ref (W.c.cl n)) none oe → (∃ vs, oe.data = .fields vs) → ts a n oe pn D σ H) W.W D) pn xe D σ H)
      (gTryAs i m gb gs) where
  ps := ps_try_as (tb := fun W' D σ H => ∀ pn xe, Ctx (X.tr pn xe) ⟨W', W.c⟩ → tb W' pn xe D σ H) C.hs C.hf C.nd hi hln ⟨hg, hdb, .inl g⟩ C.tk
    (fun W' pn xe tk po => ⟨fun pins s σ H D I h => (hb W' pn xe ⟨tk, po, C.calm, C.hs, C.hf, C.nd⟩).ps.run pins s σ H D I (h pn xe ⟨tk, po, C.calm, C.hs, C.hf, C.nd⟩)⟩)
    (fun a oe cls d pn hz hf => ⟨fun pins s σ H D I ⟨n, e1, e2, e3, h⟩ => by subst e1 e2; exact (hsu a oe n pn e3 hz hf).ps.run pins s σ H D I (h oe pn hz hf)⟩)
  ok := fun Fo B H ρ σ D r q pn xe C' => by
    refine (hb _ pn xe C').ok Fo B H ρ σ D r ?_
    unfold gTryAs at q
    cases h : gb ρ with
    | nx ρ => rw [h] at q; exact q
    | bk ρ => rw [h] at q; exact q
    | ct ρ => rw [h] at q; exact q
    | rt d => rw [h] at q; exact q
    | rn d => rw [h] at q; exact q
    | no => rw [h] at q; exact q
    | er n ρ1 =>
      rw [h] at q
      dsimp only at q
      intro B1 H1 σ1 s1 r1
      cases h2 : m n with
      | none => rw [h2] at q; exact q.elim
      | some b =>
        rw [h2] at q
        refine ⟨b, hm n b h2, fun hb1 a na => ⟨n, rfl, rfl, by rw [h2, hb1], ?_⟩, fun hb1 => ?_⟩
        · subst hb1
          dsimp only at q
          intro oe pn0 hz hf
          refine (hsu a oe n pn0 h2 hz hf).ok Fo B1 H1 (ρ1.set i (.v (.exc n))) _ _ ((RS.chg (c := W.c) (c' := W.c.add a n) rfl rfl rfl r1 (.inr fun _ _ z => .inl z)).setV i (.exc (.inr ⟨rfl, rfl⟩))) ?_
          have back : ∀ {ρ' : En} {B2 H2 : Hp} {σ2 : L2.St}, (ρ'.set i .un).all noS = true → RS X.K (W.c.add a n) Fo B2 H2 ρ' σ2 → RS X.K W.c Fo B2 H2 (ρ'.set i .un) (σ2.set i none) := fun hn r2 => RS.chg (c := W.c.add a n) (c' := W.c) rfl rfl rfl (r2.setU i none) (.inl hn)
          cases h3 : gs (ρ1.set i (.v (.exc n))) with
          | nx ρ2 =>
            rw [h3] at q
            unfold clean at q
            dsimp only at q
            by_cases hn : (ρ2.set i .un).all noS = true
            · rw [if_pos hn] at q
              exact fun B2 H2 σ2 s2 r2 => q B2 H2 _ (s1.trans s2) (back hn r2)
            · rw [if_neg hn] at q
              exact q.elim
          | bk ρ2 =>
            rw [h3] at q
            unfold clean at q
            dsimp only at q
            by_cases hn : (ρ2.set i .un).all noS = true
            · rw [if_pos hn] at q
              exact fun B2 H2 σ2 s2 r2 => q B2 H2 _ (s1.trans s2) (back hn r2)
            · rw [if_neg hn] at q
              exact q.elim
          | ct ρ2 =>
            rw [h3] at q
            unfold clean at q
            dsimp only at q
            by_cases hn : (ρ2.set i .un).all noS = true
            · rw [if_pos hn] at q
              exact fun B2 H2 σ2 s2 r2 => q B2 H2 _ (s1.trans s2) (back hn r2)
            · rw [if_neg hn] at q
              exact q.elim
          | rt d =>
            rw [h3] at q
            unfold clean at q
            dsimp only at q
            by_cases hn : noX d = true
            · rw [if_pos hn] at q
              exact fun B2 H2 v s2 a1 a2 a3 a4 => q B2 H2 v (s1.trans s2) a1 a2 a3 (Rep.chg (c := W.c.add a n) (c' := W.c) rfl a4 (.inl hn))
            · rw [if_neg hn] at q
              exact q.elim
          | rn d =>
            rw [h3] at q
            unfold clean at q
            dsimp only at q
            by_cases hn : noXL d = true
            · rw [if_pos hn] at q
              exact fun B2 H2 p vs s2 a1 a2 a3 a4 a5 a6 a7 => q B2 H2 p vs (s1.trans s2) a1 a2 a3 a4 a5 a6 (RepL.chg (c := W.c.add a n) (c' := W.c) rfl a7 (.inl hn))
            · rw [if_neg hn] at q
              exact q.elim
          | er k ρ2 => rw [h3] at q; exact q.elim
          | no => rw [h3] at q; exact q.elim
        · subst hb1
          exact q B1 H1 σ1 s1 r1
theorem vs_try {y : Nat} {m : Nat → Option Bool} {tb : WX → List (Addr × Obj) → (Value → Shared → Prop) → TS} {ts : Addr → Nat → Obj → List (Addr × Obj) → TS} (C : Ctx X W) (g : X.mg x = some (.ref (W.c.cl y))) (hm : ∀ n b, m n = some b → PySem.W.exmOne X.K (.ref (W.c.cl n)) (.ref (W.c.cl y)) = some b)
    (hb : ∀ (W' : WX) (pn : List (Addr × Obj)) (xe : Value → Shared → Prop), Ctx (X.tr pn xe) ⟨W', W.c⟩ → VSs (X.tr pn xe) ⟨W', W.c⟩ body (tb W' pn xe) gb)
    (hsu : ∀ (a : Addr) (oe : Obj) (n : Nat) (pn : List (Addr × Obj)), m n = some true → Zc (.ref (W.c.cl n)) none oe → (∃ vs, oe.data = .fields vs) → VSs (X.suite a ((a, oe) :: pn)) W.bare (b₀ :: suite) (ts a n oe pn) gs)
    (hg : Gl X x := by rfl) (hdb : (x == ("__debug__" : Str)) = false := by decide) :
    VS X W (.Try body [.ExceptHandler (some (.Name x np)) none (b₀ :: suite) pos'] [] [] pos)
      (fun D σ H => ∀ pn xe, Ctx (X.tr pn xe) ⟨wOnly X.K (.ref (W.c.cl y)) (fun a cls d D σ H => ∃ n, cls = .ref (W.c.cl n) ∧ d = none ∧ m n = some true ∧ ∀ oe pn, Zc (.ref (W.c.cl n)) none oe → (∃ vs, oe.data = .fields vs) → ts a n oe pn D σ H) W.W D, W.c⟩ → tb (wOnly X.K (.ref (W.c.cl y)) (fun a cls d D σ H => ∃ n, cls = .ref (W.c.cl n) ∧ d = none ∧ m n = some true ∧ ∀ oe pn, Zc (.ref (W.c.cl n)) none oe → (∃ vs, oe.data = .fields vs) → ts a n oe pn D σ H) W.W D) pn xe D σ H)
      (gTry m gb gs) where
  ps := ps_try_only (tb := fun W' D σ H => ∀ pn xe, Ctx (X.tr pn xe) ⟨W', W.c⟩ → tb W' pn xe D σ H) C.hs C.hf ⟨hg, hdb, .inl g⟩ C.tk
    (fun W' pn xe tk po => ⟨fun pins s σ H D I h => (hb W' pn xe ⟨tk, po, C.calm, C.hs, C.hf, C.nd⟩).ps.run pins s σ H D I (h pn xe ⟨tk, po, C.calm, C.hs, C.hf, C.nd⟩)⟩)
    (fun a oe cls d pn hz hf => ⟨fun pins s σ H D I ⟨n, e1, e2, e3, h⟩ => by subst e1 e2; exact (hsu a oe n pn e3 hz hf).ps.run pins s σ H D I (h oe pn hz hf)⟩)
  ok := fun Fo B H ρ σ D r q pn xe C' => by
    refine (hb _ pn xe C').ok Fo B H ρ σ D r ?_
    unfold gTry at q
    cases h : gb ρ with
    | nx ρ => rw [h] at q; exact q
    | bk ρ => rw [h] at q; exact q
    | ct ρ => rw [h] at q; exact q
    | rt d => rw [h] at q; exact q
    | rn d => rw [h] at q; exact q
    | no => rw [h] at q; exact q
    | er n ρ1 =>
      rw [h] at q
      dsimp only at q
      intro B1 H1 σ1 s1 r1
      cases h2 : m n with
      | none => rw [h2] at q; exact q.elim
      | some b =>
        rw [h2] at q
        refine ⟨b, hm n b h2, fun hb1 a na => ⟨n, rfl, rfl, by rw [h2, hb1], ?_⟩, fun hb1 => ?_⟩
        · subst hb1
          dsimp only at q
          intro oe pn0 hz hf
          refine (hsu a oe n pn0 h2 hz hf).ok Fo B1 H1 ρ1 _ _ r1 (SPost.next s1 ?_)
          cases h3 : gs ρ1 with
          | er k ρ2 => rw [h3] at q; exact q.elim
          | nx ρ2 => rw [h3] at q; exact q
          | bk ρ2 => rw [h3] at q; exact q
          | ct ρ2 => rw [h3] at q; exact q
          | rt ρ2 => rw [h3] at q; exact q
          | rn ρ2 => rw [h3] at q; exact q
          | no => rw [h3] at q; exact q
        · subst hb1
          exact q B1 H1 σ1 s1 r1
/-- isinstance(e, x), e the caught error -/
def gIsE (m : Nat → Nat → Option Bool) : List D → Option D := fun ds => match ds with
  | [.exc n, .cls y] => (m n y).map .bl
  | _ => none
structure IsTab (K : PySem.W.Frag) (c : Cs) (m : Nat → Nat → Option Bool) : Prop where
  e : ∀ n y b, m n y = some b → PySem.W.exmOne K (.ref (c.cl n)) (.ref (c.cl y)) = some b
  k : ∀ n y b, m n y = some b → PySem.W.kitOne K (.ref (c.cl n)) (.ref (c.cl y)) = some b
  x : ∀ n y b, m n y = some b → ExcC K (c.cl n)
  no : ∀ a n, ¬ c.ex a n
theorem repT_exc {K : PySem.W.Frag} {c : Cs} {B H : Hp} {n : Nat} {v : V} (h : RepT K c B H (.exc n) v) : Rep K c B (.exc n) v := by
  rcases h with h | ⟨_, _, _, z, _⟩
  · exact h
  · cases z
theorem repT_cls {K : PySem.W.Frag} {c : Cs} {B H : Hp} {n : Nat} {v : V} (h : RepT K c B H (.cls n) v) : v = .ref (c.cl n) := by
  rcases h with h | ⟨_, _, _, z, _⟩
  · cases h; rfl
  · cases z
theorem gIsE_ok {K : PySem.W.Frag} {c : Cs} {m : Nat → Nat → Option Bool} (T : IsTab K c m) (a : Addr) (n : Nat) : CBOk K (c.add a n) (rIsE K (c.cl n) a) (gIsE m) := fun B H ds vs Q d s hr e q => by
  unfold gIsE at e
  split at e
  · rename_i n' y
    obtain ⟨b, hb, rfl⟩ := Option.map_eq_some_iff.mp e
    cases hr with
    | cons h1 t1 => cases t1 with
      | cons h2 t2 =>
        cases t2
        have h1' := repT_exc h1
        cases repT_cls h2
        cases h1' with
        | exc hx =>
          rcases hx with hx | ⟨rfl, rfl⟩
          · exact (T.no _ _ hx).elim
          · exact ⟨_, .ref (c.cl y), b, rfl, fun u hu => hu, T.k _ _ _ hb, q _ B H (Up.refl s) (.bl b)⟩
  · cases e
theorem ve_isE {m : Nat → Nat → Option Bool} {a : Addr} {oe : Obj} {k : Nat} {pn : List (Addr × Obj)} {e : Expr} {es : List Expr} {tA : TA} {fn : En → R (List D)} {p pos : Pos} (hx : ExcC X.K (W.c.cl k)) (T : IsTab X.K W.c m) (hz : Zc (.ref (W.c.cl k)) none oe) (hf : ∃ vs, oe.data = .fields vs) (hm : X.mg "isinstance" = none)
    (ha : VAP (X.suite a ((a, oe) :: pn)) (W.exc a k) (e :: es) tA fn) (hg : Gl (X.suite a ((a, oe) :: pn)) "isinstance" := by rfl) (he : starEach (e :: es) X.env = (false, eval e X.env) :: starEach es X.env := by rfl) (hpl : (backTo pos (starEach es X.env)).any (·.1) = false := by rfl) :
    VE (X.suite a ((a, oe) :: pn)) (W.exc a k) (.Call (.Name "isinstance" p) (e :: es) [] pos) (tCB (rIsE X.K (W.c.cl k) a) tA) (dCB (gIsE m) fn) := ve_callB (call_isE hx hz hf) (gIsE_ok T a k) hm (by decide +kernel) ha hg (by decide) (by decide) he hpl
theorem ve_cls {x : Str} {n : Nat} {pos : Pos} (hm : X.mg x = some (.ref (W.c.cl n))) (hg : Gl X x := by rfl) (hd : (x == ("__debug__" : Str)) = false := by decide) : VE X W (.Name x pos) (tC (.ref (W.c.cl n))) (dC (.cls n)) :=
  ve_c (pe_glob hg hm rfl hd) fun _ => .cls n
end
end VL
set_option maxRecDepth 100000
set_option maxHeartbeats 4000000
namespace VL
open PySem PySem.Spec PyProof.Rows L2
/-! ### an own list lent to a def that keeps nothing of it -/
def scal : D → Bool
  | .non => true
  | .bl _ => true
  | .int _ => true
  | .str _ => true
  | .ty _ => true
  | .cls _ => true
  | _ => false
def scalL : List D → Bool
  | [] => true
  | d :: ds => scal d && scalL ds
section
variable {K : PySem.W.Frag} {c : Cs} {B B' H : Hp}
theorem Rep.scal {d : D} {v : V} (h : Rep K c B d v) (s : VL.scal d = true) : Rep K c B' d v := by
  cases h <;> first | exact .non | exact .bl _ | exact .int _ | exact .str _ | exact .ty _ | exact .cls _ | cases s
theorem RepL.scal : ∀ {ds : List D} {vs : List V}, RepL K c B ds vs → scalL ds = true → RepL K c B' ds vs
  | _, _, .nil, _ => .nil
  | _, _, .cons h r, s => by
    simp only [scalL, Bool.and_eq_true] at s
    exact .cons (Rep.scal h s.1) (RepL.scal r s.2)
theorem lent (s : Same B H) : ∀ {ds : List D} {vs : List V}, RepTL K c B H ds vs → ∃ B1, Same B B1 ∧ Same B1 H ∧ RepL K c B1 ds vs
  | _, _, .nil => ⟨B, Same.refl _, s, .nil⟩
  | _, _, .cons h r => by
    obtain ⟨B1, s1, s2, r1⟩ := lent s r
    rcases h with h | ⟨xs, p, ws, rfl, rfl, hp, hr⟩
    · exact ⟨B1, s1, s2, .cons (h.up s1) r1⟩
    · have sb : Same B1 (upd B1 p (.lst ws)) := fun a o e => by
        by_cases q : a = p
        · subst q
          rw [upd_same]
          have := s2 _ _ e
          rw [hp] at this
          exact this
        · rw [upd_ne q]
          exact e
      refine ⟨upd B1 p (.lst ws), s1.trans sb, fun a o e => ?_, .cons (.lst upd_same ((hr.up s1).up sb)) (r1.up sb)⟩
      by_cases q : a = p
      · subst q
        rw [upd_same] at e
        rw [hp]
        exact e
      · rw [upd_ne q] at e
        exact s2 _ _ e
theorem up_lent {B1 B2 H2 : Hp} (sb : Same B B1) (u : Up B1 H B2 H2) : Up B H B H2 := ⟨Same.refl _, (sb.trans u.b).trans u.bh, u.h, fun _ _ n => n⟩
end
def rScal (r : R D) : R D := match r with
  | .ok d => if scal d = true then .ok d else .no
  | .er C => .er C
  | .no => .no
def rScalL (r : R (List D)) : R (List D) := match r with
  | .ok d => if scalL d = true then .ok d else .no
  | .er C => .er C
  | .no => .no
def dCallP (g : List D → R D) (fa : En → R (List D)) : En → R D := fun ρ => (fa ρ).bind fun xs => rScal (g xs)
def dCallPN (g : List D → R (List D)) (fa : En → R (List D)) : En → R (List D) := fun ρ => (fa ρ).bind fun xs => rScalL (g xs)
section
variable {X : Cx} {W : Ws} {e : Expr} {es : List Expr} {tA : TA} {h1 : En → R (List D)} {pos p : Pos} {x : Str} {k n : Nat}
theorem tCallP_ok {g : List D → R D} {tA : TA} {es : List Expr} (ha : VAP X W es tA h1) (hl : ∀ ρ ds, h1 ρ = .ok ds → ds.length = n) {Fo B H ρ σ Q} (rs : RS X.K W.c Fo B H ρ σ) (q : EPost X.K W σ B H (dCallP g h1 ρ) Q) : tCallS (spV X.K W.c n g) (WE W.W) tA σ H Q := by
  unfold dCallP at q
  refine ha.ok Fo B H ρ σ _ rs ?_
  cases h : h1 ρ with
  | no => rw [h] at q; exact q
  | er C => rw [h] at q; exact q
  | ok xs =>
    rw [h, R.bind_ok] at q
    intro vs B' H' u r
    obtain ⟨B1, s1, s2, r1⟩ := lent u.bh r
    refine ⟨B1, xs, s2, r1, hl ρ xs h, ?_⟩
    unfold rScal at q
    cases h2 : g xs with
    | no => rw [h2] at q; exact q
    | er C => rw [h2] at q; exact fun B2 H2 u2 => q B' H2 (u.trans (up_lent s1 u2))
    | ok d =>
      rw [h2] at q
      dsimp only at q
      by_cases hs : scal d = true
      · rw [if_pos hs] at q
        exact fun v B2 H2 u2 hv => q v B' H2 (u.trans (up_lent s1 u2)) (Rep.scal hv hs)
      · rw [if_neg hs] at q
        exact q.elim
theorem tCallP_okN {g : List D → R (List D)} {tA : TA} {es : List Expr} (ha : VAP X W es tA h1) (hl : ∀ ρ ds, h1 ρ = .ok ds → ds.length = n) {Fo B H ρ σ Q} (rs : RS X.K W.c Fo B H ρ σ) (q : NPost X.K W σ B H (dCallPN g h1 ρ) Q) : tCallS (spN X.K W.c n g) (WE W.W) tA σ H Q := by
  unfold dCallPN at q
  refine ha.ok Fo B H ρ σ _ rs ?_
  cases h : h1 ρ with
  | no => rw [h] at q; exact q
  | er C => rw [h] at q; exact q
  | ok xs =>
    rw [h, R.bind_ok] at q
    intro vs B' H' u r
    obtain ⟨B1, s1, s2, r1⟩ := lent u.bh r
    refine ⟨B1, xs, s2, r1, hl ρ xs h, ?_⟩
    unfold rScalL at q
    cases h2 : g xs with
    | no => rw [h2] at q; exact q
    | er C => rw [h2] at q; exact fun B2 H2 u2 => q B' H2 (u.trans (up_lent s1 u2))
    | ok d =>
      rw [h2] at q
      dsimp only at q
      by_cases hs : scalL d = true
      · rw [if_pos hs] at q
        exact fun p vs B2 H2 u2 n1 n2 h4 hv => q p vs B' H2 (u.trans (up_lent s1 u2)) (u.bh.free n2) (u.h.free n2) h4 (RepL.scal hv hs)
      · rw [if_neg hs] at q
        exact q.elim
theorem ve_callP {g : List D → R D} (F : DefAt X.prog X.w X.K X.mg X.base x k n (spV X.K W.c n g)) (hr : Room k X.A) (tk : Takes X W.W) (ha : VAP X W (e :: es) tA h1) (hl : ∀ ρ ds, h1 ρ = .ok ds → ds.length = n := by repeat (first | exact len_nil | refine len_cons ?_)) (hg : Gl X x := by rfl)
    (hdb : (x == ("__debug__" : Str)) = false := by decide) (he : starEach (e :: es) X.env = (false, eval e X.env) :: starEach es X.env := by rfl) (hpl : (backTo pos (starEach es X.env)).any (·.1) = false := by rfl) :
    VE X W (.Call (.Name x p) (e :: es) [] pos) (tCallS (spV X.K W.c n g) (WE W.W) tA) (dCallP g h1) := ⟨by
      obtain ⟨fa, fd, ps, F, hm, hk, hb, _⟩ := F.ex
      exact pe_callS F hr hg hm hk hb (fun σ => passAt tk σ) ha.pe hdb he hpl, fun _ _ _ _ _ _ rs q => tCallP_ok ha hl rs q⟩
theorem vn_callP {g : List D → R (List D)} (F : DefAt X.prog X.w X.K X.mg X.base x k n (spN X.K W.c n g)) (hr : Room k X.A) (tk : Takes X W.W) (ha : VAP X W (e :: es) tA h1) (hl : ∀ ρ ds, h1 ρ = .ok ds → ds.length = n := by repeat (first | exact len_nil | refine len_cons ?_)) (hg : Gl X x := by rfl)
    (hdb : (x == ("__debug__" : Str)) = false := by decide) (he : starEach (e :: es) X.env = (false, eval e X.env) :: starEach es X.env := by rfl) (hpl : (backTo pos (starEach es X.env)).any (·.1) = false := by rfl) :
    VN X W (.Call (.Name x p) (e :: es) [] pos) (tCallS (spN X.K W.c n g) (WE W.W) tA) (dCallPN g h1) := ⟨by
      obtain ⟨fa, fd, ps, F, hm, hk, hb, _⟩ := F.ex
      exact pe_callS F hr hg hm hk hb (fun σ => passAt tk σ) ha.pe hdb he hpl, fun _ _ _ _ _ _ rs q => tCallP_okN ha hl rs q⟩
end
theorem scalL_iL : ∀ xs : List Int, scalL (iL xs) = true
  | [] => rfl
  | x :: xs => by rw [iL_cons]; simp only [scalL, scal, scalL_iL xs, Bool.and_self]
theorem scalL_nL (xs : List Nat) : scalL (nL xs) = true := by rw [nL_iL]; exact scalL_iL _
theorem rScal_i (i : Int) : rScal (.ok (.int i)) = .ok (.int i) := rfl
theorem rScal_b (b : Bool) : rScal (.ok (.bl b)) = .ok (.bl b) := rfl
theorem rScal_n : rScal (.ok .non) = .ok .non := rfl
theorem rScalL_i (xs : List Int) : rScalL (.ok (iL xs)) = .ok (iL xs) := if_pos (scalL_iL xs)
theorem rScalL_N (xs : List Nat) : rScalL (.ok (nL xs)) = .ok (nL xs) := if_pos (scalL_nL xs)
end VL
set_option maxRecDepth 100000
set_option maxHeartbeats 1000000
namespace VL
open PySem PySem.Spec PyProof.Rows L2
theorem rngD_nat (a b : Nat) : rngD (a : Int) (b : Int) = (List.range (b - a)).map fun (i : Nat) => D.int ((a + i : Nat) : Int) := by
  unfold rngD
  rw [show ((b : Int) - (a : Int)).toNat = b - a by omega]
  rfl
theorem dRng_2 {i j : Int} {ρ : En} {f : En → R (List D)} (h : f ρ = .ok [.int i, .int j]) (h1 : -(2 ^ 62) ≤ i ∧ i < 2 ^ 62 ∧ -(2 ^ 62) ≤ j ∧ j < 2 ^ 62) : dRng f ρ = .ok (rngD i j) := by
  unfold dRng
  rw [h]
  exact if_pos h1
theorem gSub_n {a b : Nat} {i : Int} (h : i = (b : Int)) (hb : b ≤ a) : gSub (.int (a : Int)) (.int i) = some (.int ((a - b : Nat) : Int)) := by
  subst h
  rw [gSub_i]
  congr 2
  omega
theorem gAdd_k {a b : Nat} {i : Int} (h : i = (b : Int)) : gAdd (.int (a : Int)) (.int i) = some (.int ((a + b : Nat) : Int)) := by
  subst h
  exact gAdd_n a b
theorem gIx_k {xs : List Nat} {k : Nat} (hk : k < xs.length) : gIx (.lst (nL xs)) (.int (k : Int)) = some (.int (g0 xs k : Nat)) := gIx_n rfl hk
theorem zip_nL (xs ys : List Nat) : ((nL xs).zip (nL ys)).map (fun p => D.tup [p.1, p.2]) = (xs.zip ys).map fun p => D.tup [.int (p.1 : Int), .int (p.2 : Int)] := by
  induction xs generalizing ys with
  | nil => rfl
  | cons x xs ih =>
    cases ys with
    | nil => rfl
    | cons y ys =>
      have := ih ys
      unfold nL at this ⊢
      simp only [List.map_cons, List.zip_cons_cons]
      rw [this]
theorem lc_map {β : Type} {gf : D → En → Option En} {ge : En → R D} {ρ : En} (c out : β → D) (xs : List β) (h : ∀ x ∈ xs, ∃ ρ1, gf (c x) ρ = some ρ1 ∧ ge ρ1 = .ok (out x)) : lcD gf dYes ge ρ (xs.map c) = .ok (xs.map out) := by
  induction xs with
  | nil => rfl
  | cons x xs ih =>
    obtain ⟨ρ1, e1, e2⟩ := h x (by simp)
    simp only [List.map_cons]
    unfold lcD
    rw [e1]
    dsimp only [dYes]
    rw [e2]
    dsimp only
    rw [ih fun y hy => h y (by simp [hy])]
    rfl
theorem lc_ok {fi : En → R (List D)} {gf : D → En → Option En} {gt : En → R Bool} {ge : En → R D} {vs : List Nat} {ρ : En} {ds ys : List D} (h : fi ρ = .ok ds) (hl : ds.length ≤ 10000000) (e : lcD gf gt ge (wipeE ρ vs) ds = .ok ys) : dLc vs fi gf gt ge ρ = .ok ys := by
  unfold dLc
  rw [h, R.bind_ok, if_pos (line_le hl), e]
theorem ret_N {f : En → R (List D)} {ρ : En} {xs : List D} (h : f ρ = .ok xs) : gRetN f ρ = .rn xs := by
  unfold gRetN gLet
  rw [h]
theorem gPow2 {i : Int} (k : Nat) {n : Nat} (h : i = (k : Int)) (hk : k ≤ 1000) (hn : n = 2 ^ k) : gPow (.int 2) (.int i) = some (.int (n : Int)) := by
  subst h
  subst hn
  rw [gPow_i ⟨by omega, by omega, by decide⟩, Int.toNat_natCast, Int.natCast_pow]
  rfl
theorem pow_32 : gPow (.int 2) (.int 32) = some (.int ((4294967296 : Nat) : Int)) := gPow2 32 rfl (by decide) rfl
theorem pow_24 : gPow (.int 2) (.int 24) = some (.int ((16777216 : Nat) : Int)) := gPow2 24 rfl (by decide) rfl
theorem pow_16 : gPow (.int 2) (.int 16) = some (.int ((65536 : Nat) : Int)) := gPow2 16 rfl (by decide) rfl
theorem gMul_n {a b : Nat} (h : b < 18446744073709551616) : gMul (.int (a : Int)) (.int (b : Int)) = some (.int ((a * b : Nat) : Int)) := by
  rw [gMul_r ⟨by omega, by omega⟩, Int.natCast_mul]
theorem gSub_kn {a b : Nat} {i : Int} (h : i = (a : Int)) (hb : b ≤ a) : gSub (.int i) (.int (b : Int)) = some (.int ((a - b : Nat) : Int)) := by
  subst h
  rw [gSub_i]
  congr 2
  omega
theorem gMul_kn {a b : Nat} {i : Int} (h : i = (a : Int)) (hb : b < 18446744073709551616) : gMul (.int i) (.int (b : Int)) = some (.int ((a * b : Nat) : Int)) := by
  subst h
  exact gMul_n hb
theorem gMul_nk {a b : Nat} {i : Int} (h : i = (b : Int)) (hb : b < 18446744073709551616) : gMul (.int (a : Int)) (.int i) = some (.int ((a * b : Nat) : Int)) := by
  subst h
  exact gMul_n hb
theorem zip_range {xs ys : List Nat} {n : Nat} (hx : xs.length = n) (hy : ys.length = n) : xs.zip ys = (List.range n).map fun k => (g0 xs k, g0 ys k) := by
  apply List.ext_getElem?
  intro i
  rw [List.getElem?_map]
  by_cases h : i < n
  · rw [List.getElem?_range h, show (xs.zip ys)[i]? = some (g0 xs i, g0 ys i) from List.getElem?_zip_eq_some.mpr ⟨g0_of (show i < xs.length by omega), g0_of (show i < ys.length by omega)⟩]
    rfl
  · rw [List.getElem?_eq_none_iff.mpr (by simp; omega), List.getElem?_eq_none_iff.mpr (by simp; omega)]
    rfl
theorem set_N {i : Nat} {f : En → R (List D)} {ρ : En} {xs : List D} (h : f ρ = .ok xs) : gSetN i f ρ = .nx (ρ.set i (.o xs)) := by
  unfold gSetN gLet
  rw [h]
theorem set_V {i : Nat} {f : En → R D} {ρ : En} {d : D} (h : f ρ = .ok d) : gSet i f ρ = .nx (ρ.set i (.v d)) := by
  unfold gSet gLet
  rw [h]
def eqI : R (List D) → List Int → Bool
  | .ok ds, xs => ds.length == xs.length && (ds.zip xs).all fun p => match p.1 with
    | .int i => i == p.2
    | _ => false
  | _, _ => false
theorem eqI_ok {r : R (List D)} {xs : List Int} (h : eqI r xs = true) : r = .ok (iL xs) := by
  cases r with
  | no => cases h
  | er C => cases h
  | ok ds =>
    unfold eqI at h
    rw [Bool.and_eq_true] at h
    obtain ⟨h1, h2⟩ := h
    congr 1
    induction ds generalizing xs with
    | nil =>
      cases xs with
      | nil => rfl
      | cons x xs => cases h1
    | cons d ds ih =>
      cases xs with
      | nil => cases h1
      | cons x xs =>
        simp only [List.zip_cons_cons, List.all_cons, Bool.and_eq_true] at h2
        rw [iL_cons, ih (by simpa using h1) h2.2]
        have := h2.1
        cases d with
        | int i => rw [eq_of_beq this]
        | _ => cases this
theorem rngSize_up (k m : Nat) (hk : 0 < k) : Builtin.Range.rangeSize 0 ((k * m : Nat) : Int) (k : Int) = m := by
  unfold Builtin.Range.rangeSize
  rw [if_pos (by omega)]
  cases m with
  | zero => rw [if_neg (by simp)]; rfl
  | succ m =>
    have h0 : 0 < k * (m + 1) := Nat.mul_pos hk (by omega)
    rw [if_pos (by omega)]
    have e : ((k * (m + 1) : Nat) : Int) - 0 - 1 = ((k : Int) - 1) + (k : Int) * (m : Int) := by
      rw [Int.natCast_mul]
      have : ((m + 1 : Nat) : Int) = (m : Int) + 1 := by omega
      rw [this, Int.mul_add, Int.mul_one]
      omega
    rw [e, Int.add_mul_ediv_left _ _ (by omega), Int.ediv_eq_zero_of_lt (by omega) (by omega)]
    omega
theorem small_up (k m : Nat) (hk : 0 < k) (h : k * m < 2 ^ 61) (hk2 : k < 1073741824) : Builtin.Range.small 0 ((k * m : Nat) : Int) (k : Int) = true := by
  unfold Builtin.Range.small
  rw [rngSize_up k m hk]
  have : m ≤ k * m := Nat.le_mul_of_pos_left m hk
  have e : 0 + (m : Int) * (k : Int) = ((k * m : Nat) : Int) := by rw [Int.natCast_mul, Int.mul_comm, Int.zero_add]
  simp only [Builtin.Range.rangeFitsLong, Bool.and_eq_true, Bool.or_eq_true, decide_eq_true_eq, beq_iff_eq]
  generalize k * m = z at h this
  refine ⟨⟨⟨⟨by decide, by omega⟩, by omega⟩, by omega⟩, .inr ?_⟩
  rw [if_pos (by omega), Bool.and_eq_true, decide_eq_true_eq, decide_eq_true_eq]
  omega
theorem rngC_up (k m : Nat) : rngC 0 (k : Int) m = (List.range m).map fun (i : Nat) => D.int ((k * i : Nat) : Int) := by
  unfold rngC
  apply List.map_congr_left
  intro i _
  congr 1
  rw [Int.zero_add, Int.natCast_mul, Int.mul_comm]
theorem dRng_3 {i j k : Int} {ρ : En} {f : En → R (List D)} (h : f ρ = .ok [.int i, .int j, .int k]) (h1 : k ≠ 0 ∧ k.natAbs < 1073741824 ∧ Builtin.Range.small i j k = true ∧ 0 ≤ Builtin.Range.rangeSize i j k) : dRng f ρ = .ok (rngC i k (Builtin.Range.rangeSize i j k).toNat) := by
  unfold dRng
  rw [h]
  exact if_pos h1
/-- range(0, k * m, k) -/
theorem dRng_up {k m : Nat} {n kk : Int} {ρ : En} {f : En → R (List D)} (hf : f ρ = .ok [.int 0, .int n, .int kk]) (hn : n = ((k * m : Nat) : Int)) (hkk : kk = (k : Int)) (hk : 0 < k) (h : k * m < 2 ^ 61) (hk2 : k < 1073741824) : dRng f ρ = .ok ((List.range m).map fun (i : Nat) => D.int ((k * i : Nat) : Int)) := by
  subst hn hkk
  rw [dRng_3 hf ⟨by omega, by omega, small_up k m hk h hk2, by rw [rngSize_up k m hk]; omega⟩, rngSize_up k m hk, Int.toNat_natCast, rngC_up]
/-- range(n - 1, -1, -1) -/
theorem dRng_down {n : Nat} {a b c : Int} {ρ : En} {f : En → R (List D)} (hf : f ρ = .ok [.int a, .int b, .int c]) (ha : a = (n : Int) - 1) (hb : b = -1) (hc : c = -1) (h : n < 2 ^ 61) : dRng f ρ = .ok ((List.range n).map fun (i : Nat) => D.int ((n : Int) - 1 - (i : Int))) := by
  subst ha hb hc
  have e : Builtin.Range.rangeSize ((n : Int) - 1) (-1) (-1) = n := by rw [PySem.W.rangeSize_downNat]; omega
  rw [dRng_3 hf ⟨by decide, by decide, PySem.W.small_down (by omega) (by omega) (by omega) (by omega), by rw [e]; omega⟩, e, Int.toNat_natCast]
  unfold rngC
  congr 1
  apply List.map_congr_left
  intro i _
  congr 1
  omega
theorem nL_cat (xs ys : List Nat) : nL xs ++ nL ys = nL (xs ++ ys) := by simp [nL]
theorem nL_rep (k x : Nat) : (List.replicate k [D.int (x : Int)]).flatten = nL (List.replicate k x) := by
  induction k with
  | zero => rfl
  | succ k ih => simp only [List.replicate_succ, List.flatten_cons, ih, nL, List.map_cons, List.singleton_append]
theorem uSet_ok {ds : List D} {d : D} {i : Int} (h0 : 0 ≤ i) (h1 : i < ds.length) : uSet ds (d, .int i) = some (ds.set i.toNat d) := by
  unfold uSet ixN
  dsimp only
  rw [if_pos h0, if_pos h1]
  rfl
end VL
set_option maxRecDepth 100000
set_option maxHeartbeats 4000000
namespace VL
open PySem PySem.Spec PyProof.Rows L2
theorem len_up {h1 : En → R (List D)} {m : Nat} (h : ∀ ρ ds, h1 ρ = .ok ds → ds.length = m) : ∀ ρ ds, h1 ρ = .ok ds → ds.length + 1 = m + 1 := fun ρ ds e => congrArg (· + 1) (h ρ ds e)
/-! ### fields of instances -/
/-- n, f: instances of the class n may be asked for f as a field -/
structure FldTab (K : PySem.W.Frag) (c : Cs) (m : Nat → Str → Bool) : Prop where
  ok : ∀ n f, m n f = true → Cls K (c.cl n) ∧ NoAttr K (c.cl n) f
def dFld (m : Nat → Str → Bool) (x : Str) (f : En → R D) : En → R D := fun ρ => (f ρ).bind fun d => match d with
  | .obj n fs => if m n x = true then ofO (fs.lookup x) else .no
  | _ => .no
section
variable {X : Cx} {W : Ws} {e a b : Expr} {es : List Expr} {t ta tb : TE} {tA : TA} {f fa : En → R D} {h1 : En → R (List D)} {pos : Pos}
theorem ve_fld {x : Str} {m : Nat → Str → Bool} (T : FldTab X.K W.c m) (he : VE X W e t f) (hb : attributeBase e x X.env (eval e X.env) = eval e X.env := by rfl) : VE X W (.Attribute e x pos) (tFld X.K t x) (dFld m x f) :=
  ⟨pe_fld he.pe hb, fun Fo B H ρ σ Q rs q => by
    unfold dFld at q
    refine he.ok Fo B H ρ σ _ rs ?_
    cases h : f ρ with
    | no => rw [h] at q; exact q
    | er C => rw [h] at q; exact q
    | ok d =>
      rw [h, R.bind_ok] at q
      intro v B' H' u hv
      cases hv with
      | @obj p dx n fs gs hp hr =>
        dsimp only at q
        by_cases hm : m n x = true
        · rw [if_pos hm] at q
          cases h2 : fs.lookup x with
          | none => rw [h2] at q; exact q.elim
          | some y =>
            rw [h2] at q
            obtain ⟨z, hz, rz⟩ := hr.look h2
            obtain ⟨c1, c2⟩ := T.ok n x hm
            exact ⟨p, _, dx, gs, z, rfl, u.bh _ _ hp, c1, c2, hz, q z B' H' u rz⟩
        · rw [if_neg hm] at q
          exact q.elim
      | _ => exact q.elim⟩
/-! ### one of two ways, for values -/
theorem ve_way {t1 t2 : TE} {f1 f2 : En → R D} (a : VE X W e t1 f1) (b : VE X W e t2 f2) : VE X W e (fun σ H Q => t1 σ H Q ∨ t2 σ H Q) (fun ρ => orR (f1 ρ) (f2 ρ)) :=
  ⟨⟨fun pins s σ H Q I h => h.elim (a.pe.run pins s σ H Q I) (b.pe.run pins s σ H Q I)⟩, fun Fo B H ρ σ Q rs q => by
    cases e : f1 ρ with
    | no => rw [e] at q; exact .inr (b.ok Fo B H ρ σ Q rs q)
    | ok d => exact .inl (a.ok Fo B H ρ σ Q rs (by rw [e] at q ⊢; exact q))
    | er C => exact .inl (a.ok Fo B H ρ σ Q rs (by rw [e] at q ⊢; exact q))⟩
/-! ### methods -/
/-- the class n has the method m, a def that keeps the promise sp -/
structure MethAt (P : Program) (w : World) (K : PySem.W.Frag) (c : Cs) (mg : Str → Option Value) (base : Heap) (n : Nat) (m : Str) (k ar : Nat) (sp : Sp) : Prop where
  ex : ∃ fa fd ps, FnOk P w K mg base (L2.CX P w) k fa fd ps sp ∧ Meth K (c.cl n) m fa ∧ Binds K fd ps [] ∧ ps.length = ar
  cls : Cls K (c.cl n)
def tMethS (C : Addr) (m : Str) (sp : Sp) (E : L2.St → XK) (ta : TE) (t : TA) : TE := fun σ H Q => ta σ H fun x H1 => ∃ a dx fs, x = .ref a ∧ H1 a = some (.ins C dx fs) ∧ fs.lookup m = none ∧ t σ H1 fun vs H2 => sp (x :: vs) H2 Q (E σ)
theorem pe_methS {C f : Addr} {k : Nat} {fd : FuncData} {ps : List Str} {sp : Sp} {E : L2.St → XK} {m : Str} {apos : Pos} {o : Expr} {pl : Sem Bool} (he : PE X o ta) (c : Cls X.K C) (hm : Meth X.K C m f) (F : FnOk X.prog X.w X.K X.mg X.base (L2.CX X.prog X.w) k f fd ps sp) (hr : Room k X.A) (hb : Binds X.K fd ps []) (hx : ∀ σ, PassesAt (L2.CX X.prog X.w) X σ (E σ)) (ha : PA X (e :: es) tA)
    (hst : starEach (e :: es) X.env = (false, eval e X.env) :: starEach es X.env := by rfl) (hpl : (backTo pos (starEach es X.env)).any (·.1) = false := by rfl)
    (ht : eval (.Call (.Attribute o m apos) (e :: es) [] pos) X.env = (do
      let ov ← eval o X.env
      standAt apos.atName
      let (f, first) ← holding [ov] (getMethod ov m pl)
      callWith pos f first (backTo pos (starEach (e :: es) X.env)) (backToKw pos (keywordEach [] X.env))) := by rfl) :
    PE X (.Call (.Attribute o m apos) (e :: es) [] pos) (tMethS C m sp E ta tA) := by
  refine ⟨fun pins s σ H Q I h => ?_⟩
  refine PySem.W.methodCall_KW (pl := pl) (thn (he.run pins s σ H _ I h) fun u s1 ⟨x, H1, I1, rx, a, dx, fs, ex, ea, l, q⟩ => ?_) ht
  subst ex
  obtain rfl : u = Value.ref a := rx
  refine getmeth_ok I1 ea c hm l ?_
  refine PySem.W.callWith_K (first := [.ref a]) (h₀ := X.base) I.ok.mod.kin hm.kp (thn (ha.run pos pins s1 σ H1 _ I1 q) fun us s2 ⟨vs, H2, I2, r, q2⟩ => ⟨I2.kIn, ?_⟩) hst hpl
  exact run_fnS (us := .ref a :: us) (vs := .ref a :: vs) F hr hb (hx σ) I2 (.cons rfl r) q2
theorem pe_methS0 {C f : Addr} {k : Nat} {fd : FuncData} {ps : List Str} {sp : Sp} {E : L2.St → XK} {m : Str} {apos : Pos} {o : Expr} {pl : Sem Bool} (he : PE X o ta) (c : Cls X.K C) (hm : Meth X.K C m f) (F : FnOk X.prog X.w X.K X.mg X.base (L2.CX X.prog X.w) k f fd ps sp) (hr : Room k X.A) (hb : Binds X.K fd ps []) (hx : ∀ σ, PassesAt (L2.CX X.prog X.w) X σ (E σ))
    (ht : eval (.Call (.Attribute o m apos) [] [] pos) X.env = (do
      let ov ← eval o X.env
      standAt apos.atName
      let (f, first) ← holding [ov] (getMethod ov m pl)
      callWith pos f first (backTo pos (starEach [] X.env)) (backToKw pos (keywordEach [] X.env))) := by rfl) :
    PE X (.Call (.Attribute o m apos) [] [] pos) (tMethS C m sp E ta tNil) := by
  refine ⟨fun pins s σ H Q I h => ?_⟩
  refine PySem.W.methodCall_KW (pl := pl) (thn (he.run pins s σ H _ I h) fun u s1 ⟨x, H1, I1, rx, a, dx, fs, ex, ea, l, q⟩ => ?_) ht
  subst ex
  obtain rfl : u = Value.ref a := rx
  refine getmeth_ok I1 ea c hm l ?_
  exact PySem.W.callWith_K0 (first := [.ref a]) I1.kIn hm.kp (run_fnS (us := [.ref a]) (vs := [.ref a]) F hr hb (hx σ) I1 (.cons rfl .nil) q)
/-- o.m(..), o of the class n -/
def dMeth {α : Type} (n : Nat) (m : Str) (g : List D → R α) (f : En → R D) (fa : En → R (List D)) : En → R α := fun ρ => (f ρ).bind fun d => match d with
  | .obj k fs => if k = n ∧ fs.lookup m = none then (fa ρ).bind fun xs => g (.obj k fs :: xs) else .no
  | _ => .no
theorem tMeth_ok {n k : Nat} {m : Str} {ar : Nat} {g : List D → R D} {o : Expr} {es : List Expr} (he : VE X W o t f) (ha : VA X W es tA h1) (hl : ∀ ρ ds, h1 ρ = .ok ds → ds.length + 1 = ar) {Fo B H ρ σ Q} (rs : RS X.K W.c Fo B H ρ σ) (q : EPost X.K W σ B H (dMeth n m g f h1 ρ) Q) : tMethS (W.c.cl n) m (spV X.K W.c ar g) (WE W.W) t tA σ H Q := by
  unfold dMeth at q
  refine he.ok Fo B H ρ σ _ rs ?_
  cases h : f ρ with
  | no => rw [h] at q; exact q
  | er C => rw [h] at q; exact q
  | ok d =>
    rw [h, R.bind_ok] at q
    intro v B1 H1 u1 hv
    cases hv with
    | @obj p dx n' fs gs hp hr =>
      dsimp only at q
      by_cases hm : n' = n ∧ fs.lookup m = none
      · rw [if_pos hm] at q
        obtain ⟨rfl, hm2⟩ := hm
        refine ⟨p, dx, gs, rfl, u1.bh _ _ hp, hr.lookNone hm2, ?_⟩
        refine ha.ok Fo B1 H1 ρ σ _ (rs.up u1) ?_
        cases h2 : h1 ρ with
        | no => rw [h2] at q; exact q
        | er C => rw [h2] at q; exact fun B2 H2 u2 => q B2 H2 (u1.trans u2)
        | ok xs =>
          rw [h2, R.bind_ok] at q
          intro vs B2 H2 u2 r
          refine ⟨B2, .obj n' fs :: xs, u2.bh, .cons (.obj (u2.b _ _ hp) (RepF.up u2.b hr)) r, by rw [List.length_cons]; exact hl ρ xs h2, ?_⟩
          cases h3 : g (.obj n' fs :: xs) with
          | no => rw [h3] at q; exact q
          | er C => rw [h3] at q; exact fun B3 H3 u3 => q B3 H3 ((u1.trans u2).trans u3)
          | ok d => rw [h3] at q; exact fun v B3 H3 u3 hv => q v B3 H3 ((u1.trans u2).trans u3) hv
      · rw [if_neg hm] at q
        exact q.elim
    | _ => exact q.elim
theorem tMeth_okN {n k : Nat} {m : Str} {ar : Nat} {g : List D → R (List D)} {o : Expr} {es : List Expr} (he : VE X W o t f) (ha : VA X W es tA h1) (hl : ∀ ρ ds, h1 ρ = .ok ds → ds.length + 1 = ar) {Fo B H ρ σ Q} (rs : RS X.K W.c Fo B H ρ σ) (q : NPost X.K W σ B H (dMeth n m g f h1 ρ) Q) : tMethS (W.c.cl n) m (spN X.K W.c ar g) (WE W.W) t tA σ H Q := by
  unfold dMeth at q
  refine he.ok Fo B H ρ σ _ rs ?_
  cases h : f ρ with
  | no => rw [h] at q; exact q
  | er C => rw [h] at q; exact q
  | ok d =>
    rw [h, R.bind_ok] at q
    intro v B1 H1 u1 hv
    cases hv with
    | @obj p dx n' fs gs hp hr =>
      dsimp only at q
      by_cases hm : n' = n ∧ fs.lookup m = none
      · rw [if_pos hm] at q
        obtain ⟨rfl, hm2⟩ := hm
        refine ⟨p, dx, gs, rfl, u1.bh _ _ hp, hr.lookNone hm2, ?_⟩
        refine ha.ok Fo B1 H1 ρ σ _ (rs.up u1) ?_
        cases h2 : h1 ρ with
        | no => rw [h2] at q; exact q
        | er C => rw [h2] at q; exact fun B2 H2 u2 => q B2 H2 (u1.trans u2)
        | ok xs =>
          rw [h2, R.bind_ok] at q
          intro vs B2 H2 u2 r
          refine ⟨B2, .obj n' fs :: xs, u2.bh, .cons (.obj (u2.b _ _ hp) (RepF.up u2.b hr)) r, by rw [List.length_cons]; exact hl ρ xs h2, ?_⟩
          cases h3 : g (.obj n' fs :: xs) with
          | no => rw [h3] at q; exact q
          | er C => rw [h3] at q; exact fun B3 H3 u3 => q B3 H3 ((u1.trans u2).trans u3)
          | ok d => rw [h3] at q; exact fun p vs B3 H3 u3 n1 n2 h4 hv => q p vs B3 H3 ((u1.trans u2).trans u3) n1 ((u1.trans u2).h.free n2) h4 hv
      · rw [if_neg hm] at q
        exact q.elim
    | _ => exact q.elim
section
variable {n k ar : Nat} {m : Str} {apos : Pos} {o : Expr} {pl : Sem Bool}
theorem ve_meth {g : List D → R D} (M : MethAt X.prog X.w X.K W.c X.mg X.base n m k ar (spV X.K W.c ar g)) (hr : Room k X.A) (tk : Takes X W.W) (he : VE X W o t f) (ha : VA X W (e :: es) tA h1) (hl : ∀ ρ ds, h1 ρ = .ok ds → ds.length + 1 = ar := by refine len_up ?_; repeat (first | exact len_nil | refine len_cons ?_))
    (hst : starEach (e :: es) X.env = (false, eval e X.env) :: starEach es X.env := by rfl) (hpl : (backTo pos (starEach es X.env)).any (·.1) = false := by rfl)
    (ht : eval (.Call (.Attribute o m apos) (e :: es) [] pos) X.env = (do
      let ov ← eval o X.env
      standAt apos.atName
      let (f, first) ← holding [ov] (getMethod ov m pl)
      callWith pos f first (backTo pos (starEach (e :: es) X.env)) (backToKw pos (keywordEach [] X.env))) := by rfl) :
    VE X W (.Call (.Attribute o m apos) (e :: es) [] pos) (tMethS (W.c.cl n) m (spV X.K W.c ar g) (WE W.W) t tA) (dMeth n m g f h1) := ⟨by
      obtain ⟨fa, fd, ps, F, hm, hb, _⟩ := M.ex
      exact pe_methS he.pe M.cls hm F hr hb (fun σ => passAt tk σ) ha.pe hst hpl ht, fun _ _ _ _ _ _ rs q => tMeth_ok (k := k) he ha hl rs q⟩
theorem vn_meth {g : List D → R (List D)} (M : MethAt X.prog X.w X.K W.c X.mg X.base n m k ar (spN X.K W.c ar g)) (hr : Room k X.A) (tk : Takes X W.W) (he : VE X W o t f) (ha : VA X W (e :: es) tA h1) (hl : ∀ ρ ds, h1 ρ = .ok ds → ds.length + 1 = ar := by refine len_up ?_; repeat (first | exact len_nil | refine len_cons ?_))
    (hst : starEach (e :: es) X.env = (false, eval e X.env) :: starEach es X.env := by rfl) (hpl : (backTo pos (starEach es X.env)).any (·.1) = false := by rfl)
    (ht : eval (.Call (.Attribute o m apos) (e :: es) [] pos) X.env = (do
      let ov ← eval o X.env
      standAt apos.atName
      let (f, first) ← holding [ov] (getMethod ov m pl)
      callWith pos f first (backTo pos (starEach (e :: es) X.env)) (backToKw pos (keywordEach [] X.env))) := by rfl) :
    VN X W (.Call (.Attribute o m apos) (e :: es) [] pos) (tMethS (W.c.cl n) m (spN X.K W.c ar g) (WE W.W) t tA) (dMeth n m g f h1) := ⟨by
      obtain ⟨fa, fd, ps, F, hm, hb, _⟩ := M.ex
      exact pe_methS he.pe M.cls hm F hr hb (fun σ => passAt tk σ) ha.pe hst hpl ht, fun _ _ _ _ _ _ rs q => tMeth_okN (k := k) he ha hl rs q⟩
theorem ve_meth0 {g : List D → R D} (M : MethAt X.prog X.w X.K W.c X.mg X.base n m k 1 (spV X.K W.c 1 g)) (hr : Room k X.A) (tk : Takes X W.W) (he : VE X W o t f)
    (ht : eval (.Call (.Attribute o m apos) [] [] pos) X.env = (do
      let ov ← eval o X.env
      standAt apos.atName
      let (f, first) ← holding [ov] (getMethod ov m pl)
      callWith pos f first (backTo pos (starEach [] X.env)) (backToKw pos (keywordEach [] X.env))) := by rfl) :
    VE X W (.Call (.Attribute o m apos) [] [] pos) (tMethS (W.c.cl n) m (spV X.K W.c 1 g) (WE W.W) t tNil) (dMeth n m g f dNil) := ⟨by
      obtain ⟨fa, fd, ps, F, hm, hb, _⟩ := M.ex
      exact pe_methS0 he.pe M.cls hm F hr hb (fun σ => passAt tk σ) ht, fun _ _ _ _ _ _ rs q => tMeth_ok (k := k) he va_nil (fun ρ ds h => congrArg (· + 1) (len_nil ρ ds h)) rs q⟩
theorem vn_meth0 {g : List D → R (List D)} (M : MethAt X.prog X.w X.K W.c X.mg X.base n m k 1 (spN X.K W.c 1 g)) (hr : Room k X.A) (tk : Takes X W.W) (he : VE X W o t f)
    (ht : eval (.Call (.Attribute o m apos) [] [] pos) X.env = (do
      let ov ← eval o X.env
      standAt apos.atName
      let (f, first) ← holding [ov] (getMethod ov m pl)
      callWith pos f first (backTo pos (starEach [] X.env)) (backToKw pos (keywordEach [] X.env))) := by rfl) :
    VN X W (.Call (.Attribute o m apos) [] [] pos) (tMethS (W.c.cl n) m (spN X.K W.c 1 g) (WE W.W) t tNil) (dMeth n m g f dNil) := ⟨by
      obtain ⟨fa, fd, ps, F, hm, hb, _⟩ := M.ex
      exact pe_methS0 he.pe M.cls hm F hr hb (fun σ => passAt tk σ) ht, fun _ _ _ _ _ _ rs q => tMeth_okN (k := k) he va_nil (fun ρ ds h => congrArg (· + 1) (len_nil ρ ds h)) rs q⟩
end
/-! ### texts put together -/
def gFmt : D → Option D := fun d => match d with
  | .str y => if y.length ≤ sizeLine then some (.str y) else none
  | .int i => if i.natAbs.log2 < 1920 then some (.str (toString i)) else none
  | _ => none
theorem ve_fmt (he : VP X W e t f) : VE X W (.FormattedValue e (-1) none pos) (tFmt t) (dUn gFmt f) := ⟨pe_fmt he.pe, fun Fo B H ρ σ Q rs q => by
  unfold dUn at q
  refine he.ok Fo B H ρ σ _ rs ?_
  cases h : f ρ with
  | no => rw [h] at q; exact q
  | er C => rw [h] at q; exact q
  | ok d =>
    rw [h, R.bind_ok] at q
    intro v B' H' u hv
    unfold gFmt at q
    cases d with
    | str y =>
      dsimp only at q
      by_cases hl : y.length ≤ sizeLine
      · rw [if_pos hl] at q
        exact .inl ⟨y, repT_str hv, hl, q _ B' H' u (.str y)⟩
      · rw [if_neg hl] at q
        exact q.elim
    | int i =>
      dsimp only at q
      by_cases hl : i.natAbs.log2 < 1920
      · rw [if_pos hl] at q
        exact .inr ⟨i, repT_int hv, hl, q _ B' H' u (.str _)⟩
      · rw [if_neg hl] at q
        exact q.elim
    | _ => exact q.elim⟩
def JPost (W : Ws) (σ : L2.St) (B H : Hp) (r : R Str) (Q : Str → Hp → Prop) : Prop := match r with
  | .ok s => ∀ B' H', Up B H B' H' → Q s H'
  | .er C => ∀ B' H', Up B H B' H' → W.W (.ref (W.c.cl C)) none σ H'
  | .no => False
structure VJ (X : Cx) (W : Ws) (es : List Expr) (ts : List TE) (f : Str → En → R Str) : Prop where
  pe : PJ X es ts
  ok : ∀ Fo B H ρ σ acc Q, RS X.K W.c Fo B H ρ σ → JPost W σ B H (f acc ρ) Q → tJs ts acc σ H Q
def jNil : Str → En → R Str := fun acc _ => .ok acc
def jCons (f : En → R D) (g : Str → En → R Str) : Str → En → R Str := fun acc ρ => (f ρ).bind fun d => match d with
  | .str y => if (acc ++ y).length ≤ sizeLine then g (acc ++ y) ρ else .no
  | _ => .no
theorem vj_nil : VJ X W [] [] jNil := ⟨.nil, fun Fo B H ρ σ acc Q rs q => q B H rs.same⟩
theorem vj_cons {ts : List TE} {g : Str → En → R Str} (he : VE X W e t f) (hr : VJ X W es ts g) : VJ X W (e :: es) (t :: ts) (jCons f g) := ⟨.cons he.pe hr.pe, fun Fo B H ρ σ acc Q rs q => by
  unfold jCons at q
  refine he.ok Fo B H ρ σ _ rs ?_
  cases h : f ρ with
  | no => rw [h] at q; exact q
  | er C => rw [h] at q; exact q
  | ok d =>
    rw [h, R.bind_ok] at q
    intro v B1 H1 u1 hv
    cases hv with
    | str y =>
      dsimp only at q
      by_cases hl : (acc ++ y).length ≤ sizeLine
      · rw [if_pos hl] at q
        refine ⟨y, rfl, hl, hr.ok Fo B1 H1 ρ σ (acc ++ y) Q (rs.up u1) ?_⟩
        cases h2 : g (acc ++ y) ρ with
        | no => rw [h2] at q; exact q
        | er C => rw [h2] at q; exact fun B' H' u => q B' H' (u1.trans u)
        | ok s => rw [h2] at q; exact fun B' H' u => q B' H' (u1.trans u)
      · rw [if_neg hl] at q
        exact q.elim
    | _ => exact q.elim⟩
def dJs (g : Str → En → R Str) : En → R D := fun ρ => (g Str.empty ρ).bind fun s => .ok (.str s)
theorem ve_js {v1 v2 : Expr} {ts : List TE} {g : Str → En → R Str} (h : VJ X W (v1 :: v2 :: es) ts g) : VE X W (.JoinedStr (v1 :: v2 :: es) pos) (fun σ H Q => tJs ts Str.empty σ H fun out H1 => Q (.str out) H1) (dJs g) := ⟨pe_joined h.pe, fun Fo B H ρ σ Q rs q => by
  unfold dJs at q
  refine h.ok Fo B H ρ σ Str.empty _ rs ?_
  cases h2 : g Str.empty ρ with
  | no => rw [h2] at q; exact q
  | er C => rw [h2] at q; exact q
  | ok s => rw [h2] at q; exact fun B' H' u => q _ B' H' u (.str s)⟩
end
end VL
set_option maxRecDepth 100000
set_option maxHeartbeats 4000000
namespace VL
open PySem PySem.Spec PyProof.Rows L2
/-! ### an own instance's fields -/
def putD (f : Str) (d : D) : List (Str × D) → List (Str × D)
  | [] => [(f, d)]
  | (g, x) :: r => if g = f then (g, d) :: r else (g, x) :: putD f d r
section
variable {K : PySem.W.Frag} {c : Cs} {Fo B H : Hp} {ρ : En} {σ : L2.St}
theorem RepF.put {f : Str} {d : D} {v : V} (h : Rep K c B d v) : ∀ {fs : List (Str × D)} {gs : List (Str × V)}, RepF K c B fs gs → RepF K c B (putD f d fs) (putF f v gs)
  | _, _, .nil => .cons h .nil
  | (g, x) :: r, (_, y) :: s, .cons a t => by
    unfold putD putF
    by_cases e : g = f
    · rw [if_pos e, if_pos e]
      exact .cons h t
    · rw [if_neg e, if_neg e]
      exact .cons a (RepF.put h t)
theorem RepF.len : ∀ {fs : List (Str × D)} {gs : List (Str × V)}, RepF K c B fs gs → fs.length = gs.length
  | _, _, .nil => rfl
  | _, _, .cons _ t => by simp [RepF.len t]
/-- an own instance is written -/
theorem RS.writeB (r : RS K c Fo B H ρ σ) {i C : Nat} {fs es : List (Str × D)} {p dx : Addr} {gs ws : List (Str × V)} (hi : ρ[i]? = some (.b C fs)) (hs : σ[i]? = some (some (.ref p))) (hp : H p = some (.ins (c.cl C) dx gs)) (h : RepF K c B es ws) :
    RS K c Fo B (upd H p (.ins (c.cl C) dx ws)) (ρ.set i (.b C es)) σ := by
  obtain ⟨p', dx', gs', h1, h2, h3, h4, h5⟩ := r.objs i C fs hi
  rw [hs] at h1
  cases h1
  rw [hp] at h2
  cases h2
  have hl : i < ρ.length := (List.getElem?_eq_some_iff.mp hi).1
  have keep : ∀ a o, a ≠ p → H a = some o → upd H p (.ins (c.cl C) dx ws) a = some o := fun a o n e => by rw [upd_ne n]; exact e
  refine ⟨by simp [r.len], fun a o e => keep a o (ne_of_none e h4) (r.bh a o e), fun a o e => keep a o (ne_of_none e h5.1) (r.fh a o e), r.fb, fun j d q => ?_, fun j xs q => ?_, fun j k p2 xs ys hjk q1 q2 e1 e2 => ?_, fun j C2 xs q => ?_, fun j k p2 C1 C2 xs ys hjk q1 q2 e1 e2 => ?_⟩
  · by_cases hj : i = j
    · subst hj
      exact (set_un q (fun z => nomatch z)).elim
    · rw [List.getElem?_set_ne hj] at q
      exact r.vals j d q
  · by_cases hj : i = j
    · subst hj
      exact (set_un q (fun z => nomatch z)).elim
    · rw [List.getElem?_set_ne hj] at q
      obtain ⟨p2, vs, a1, a2, a3, a4, a5⟩ := r.owns j xs q
      refine ⟨p2, vs, a1, keep _ _ (fun z => ?_) a2, a3, a4, a5⟩
      rw [z, hp] at a2
      cases a2
  · by_cases hj : i = j
    · subst hj
      exact (set_un q1 (fun z => nomatch z)).elim
    · by_cases hk : i = k
      · subst hk
        exact (set_un q2 (fun z => nomatch z)).elim
      · rw [List.getElem?_set_ne hj] at q1
        rw [List.getElem?_set_ne hk] at q2
        exact r.sep j k p2 xs ys hjk q1 q2 e1 e2
  · by_cases hj : i = j
    · subst hj
      obtain ⟨_, z⟩ := set_at q
      cases z
      exact ⟨p, dx, ws, hs, upd_same, h, h4, h5⟩
    · rw [List.getElem?_set_ne hj] at q
      obtain ⟨p2, dx2, vs, a1, a2, a3, a4, a5⟩ := r.objs j C2 xs q
      refine ⟨p2, dx2, vs, a1, keep _ _ (fun z => ?_) a2, a3, a4, a5⟩
      subst z
      exact r.sepb i j p2 C C2 fs xs hj hi q hs a1
  · have up : ∀ {j : Nat} {C1 : Nat} {xs : List (Str × D)}, (ρ.set i (.b C es))[j]? = some (.b C1 xs) → ∃ C0 ys, ρ[j]? = some (.b C0 ys) := fun {j C1 xs} q => by
      by_cases hj : i = j
      · subst hj
        exact ⟨C, fs, hi⟩
      · rw [List.getElem?_set_ne hj] at q
        exact ⟨_, _, q⟩
    obtain ⟨_, _, u1⟩ := up q1
    obtain ⟨_, _, u2⟩ := up q2
    exact r.sepb j k p2 _ _ _ _ hjk u1 u2 e1 e2
end
def gPut (m : Nat → Str → Bool) (i : Nat) (x : Str) (f : En → R D) : En → Out := gLet f fun d ρ => match ρ[i]? with
  | some (.b C fs) => if m C x = true ∧ fs.length < 1000 then .nx (ρ.set i (.b C (putD x d fs))) else .no
  | _ => .no
theorem vs_put {X : Cx} {W : Ws} {e : Expr} {te : TE} {f : En → R D} {pos pos' p : Pos} {s x : Str} {m : Nat → Str → Bool} (i : Nat) (T : FldTab X.K W.c m) (he : VE X W e te f) (hN : X.N[i]? = some s := by rfl) (hv : Vis X.env.scope s := by first | exact Or.inl rfl | exact Or.inr (Or.inl rfl) | exact Or.inr (Or.inr rfl)) (hd : (s == ("__debug__" : Str)) = false := by decide)
    (hcd : (s == ("__classdict__" : Str)) = false := by decide) (hs : swapsWith e (some (.Attribute (.Name s p) x pos')) pos.line X.env = pure false := by rfl) :
    VS X W (.Assign [.Attribute (.Name s p) x pos'] e pos) (sFld X.K (tVar i) te x) (gPut m i x f) :=
  ⟨ps_fld (pe_var hN hv hd hcd) he.pe hs, fun Fo B H ρ σ D r q => by
    unfold gPut at q
    refine gLet_okE he r q fun d v B1 H1 s1 r1 hv1 q1 => ?_
    cases hi : ρ[i]? with
    | none => rw [hi] at q1; exact q1.elim
    | some sl =>
      rw [hi] at q1
      cases sl with
      | un => exact q1.elim
      | v d => exact q1.elim
      | o ds => exact q1.elim
      | b C fs =>
        dsimp only at q1
        by_cases hm : m C x = true ∧ fs.length < 1000
        · rw [if_pos hm] at q1
          obtain ⟨a, dx, gs, a1, a2, a3, a4, a5⟩ := r1.objs i C fs hi
          obtain ⟨c1, c2⟩ := T.ok C x hm.1
          exact ⟨_, a1, a, _, dx, gs, rfl, a2, c1, c2, by rw [← a3.len]; exact hm.2, q1 B1 _ σ (Same.refl _) (r1.writeB hi a1 a2 (a3.put hv1))⟩
        · rw [if_neg hm] at q1
          exact q1.elim⟩
end VL
set_option maxRecDepth 100000
set_option maxHeartbeats 4000000
namespace VL
open PySem PySem.Spec PyProof.Rows L2
section
variable {K : PySem.W.Frag} {c : Cs} {Fo Fo' B H : Hp} {ρ : En} {σ : L2.St}
theorem RS.less (r : RS K c Fo B H ρ σ) (s : Same Fo' Fo) : RS K c Fo' B H ρ σ where
  len := r.len
  bh := r.bh
  fh := s.trans r.fh
  fb := fun a h => r.fb a (VL.Same.some s h)
  vals := r.vals
  owns := fun i d q => let ⟨p, vs, h1, h2, h3, h4, h5⟩ := r.owns i d q; ⟨p, vs, h1, h2, h3, h4, s.free h5⟩
  sep := r.sep
  objs := fun i C d q => let ⟨p, dx, gs, h1, h2, h3, h4, h5⟩ := r.objs i C d q; ⟨p, dx, gs, h1, h2, h3, h4, s.free h5.1, h5.2⟩
  sepb := r.sepb
/-- a slot is given an instance of its own, at p -/
theorem RS.setB (r : RS K c Fo B H ρ σ) (i : Nat) {C : Nat} {fs : List (Str × D)} {p dx : Addr} {gs : List (Str × V)} (hp : H p = some (.ins (c.cl C) dx gs)) (h : RepF K c B fs gs) (hb : B p = none) (hf : Fo p = none) (hm : p = c.me) (hd : dx = c.md)
    (nw : ∀ (j C' : Nat) xs, j ≠ i → ρ[j]? = some (.b C' xs) → σ[j]? ≠ some (some (.ref p))) : RS K c Fo B H (ρ.set i (.b C fs)) (σ.set i (some (.ref p))) where
  len := by simp [r.len]
  bh := r.bh
  fh := r.fh
  fb := r.fb
  vals := fun j e q => by
    by_cases hj : i = j
    · subst hj
      exact (set_un q (fun z => nomatch z)).elim
    · rw [List.getElem?_set_ne hj] at q
      rw [List.getElem?_set_ne hj]
      exact r.vals j e q
  owns := fun j e q => by
    by_cases hj : i = j
    · subst hj
      exact (set_un q (fun z => nomatch z)).elim
    · rw [List.getElem?_set_ne hj] at q
      rw [List.getElem?_set_ne hj]
      exact r.owns j e q
  sep := fun j k p' xs ys hjk q1 q2 e1 e2 => by
    by_cases hj : i = j
    · subst hj
      exact (set_un q1 (fun z => nomatch z)).elim
    · by_cases hk : i = k
      · subst hk
        exact (set_un q2 (fun z => nomatch z)).elim
      · rw [List.getElem?_set_ne hj] at q1 e1
        rw [List.getElem?_set_ne hk] at q2 e2
        exact r.sep j k p' xs ys hjk q1 q2 e1 e2
  objs := fun j C' e q => by
    by_cases hj : i = j
    · subst hj
      obtain ⟨hl, e1⟩ := set_at q
      cases e1
      rw [List.getElem?_set_self (by rw [r.len]; exact hl)]
      exact ⟨p, dx, gs, rfl, hp, h, hb, hf, hm, hd⟩
    · rw [List.getElem?_set_ne hj] at q
      rw [List.getElem?_set_ne hj]
      exact r.objs j C' e q
  sepb := fun j k p' C1 C2 xs ys hjk q1 q2 e1 e2 => by
    by_cases hj : i = j
    · subst hj
      rw [List.getElem?_set_ne hjk] at q2 e2
      have z := (set_at e1).2
      cases z
      exact nw k _ ys (Ne.symm hjk) q2 e2
    · by_cases hk : i = k
      · subst hk
        rw [List.getElem?_set_ne hj] at q1 e1
        have z := (set_at e2).2
        cases z
        exact nw j _ xs hjk q1 e1
      · rw [List.getElem?_set_ne hj] at q1 e1
        rw [List.getElem?_set_ne hk] at q2 e2
        exact r.sepb j k p' C1 C2 xs ys hjk q1 q2 e1 e2
end
/-! ### __init__ -/
def del (H : Hp) (p : Addr) : Hp := fun a => if a = p then none else H a
theorem del_self {H : Hp} {p : Addr} : del H p p = none := if_pos rfl
theorem del_ne {H : Hp} {p a : Addr} (h : a ≠ p) : del H p a = H a := if_neg h
/-- where __init__ may be: everything but the instance at p -/
def IPostB (K : PySem.W.Frag) (c : Cs) (n : Nat) (p dx : Addr) (B H : Hp) (r : R (List (Str × D))) (Q : VK) (E : XK) : Prop := match r with
  | .ok fs => ∀ B' H' gs, Up B (del H p) B' H' → H' p = some (.ins (c.cl n) dx gs) → RepF K c B' fs gs → B' p = none → Q .non H'
  | .er C => ∀ B' H', Up B (del H p) B' H' → E (.ref (c.cl C)) none H'
  | .no => False
def spI (K : PySem.W.Frag) (c : Cs) (n ar : Nat) (g : List D → R (List (Str × D))) : Sp := fun vs H Q E => ∃ B ds p dx us, vs = .ref p :: us ∧ H p = some (.ins (c.cl n) dx []) ∧ B p = none ∧ Same B H ∧ RepL K c B ds us ∧ ds.length + 1 = ar ∧ IPostB K c n p dx B H (g ds) Q E
def at0 (n : Nat) (ρ : En) : R (List (Str × D)) := match ρ[(0 : Nat)]? with
  | some (.b C fs) => if C = n then .ok fs else .no
  | _ => .no
def finB (n : Nat) : Out → R (List (Str × D))
  | .nx ρ => at0 n ρ
  | .er C _ => .er C
  | _ => .no
def startB (n C : Nat) (ds : List D) : En := .b C [] :: (ds.map .v ++ List.replicate (n - (ds.length + 1)) .un)
def fnB (n C : Nat) (g : En → Out) : List D → R (List (Str × D)) := fun ds => finB C (g (startB n C ds))
section
variable {P : Program} {w : World} {K : PySem.W.Frag} {c : Cs} {mg : Str → Option Value} {base : Heap}
theorem start_b {B H : Hp} {N : List Str} {ds : List D} {us : List V} {p dx : Addr} {n : Nat} (s : Same B H) (r : RepL K c B ds us) (hl : ds.length + 1 ≤ N.length) (hp : H p = some (.ins (c.cl n) dx [])) (hb : B p = none) (hm : p = c.me) (hd : dx = c.md) :
    RS K c (del (apart B H) p) B H (startB N.length n ds) (L2.start N (.ref p :: us)) := by
  have r0 := start_rs (K := K) (c := c) (N := N) (ds := .ref p :: ds) (vs := .ref p :: us) s (.cons (.ref p) r) (by simpa using hl)
  have r1 := r0.less (Fo' := del (apart B H) p) (fun a o e => by
    by_cases q : a = p
    · subst q; rw [del_self] at e; cases e
    · rw [del_ne q] at e; exact e)
  have r2 := r1.setB 0 (C := n) (fs := []) (p := p) (dx := dx) (gs := []) hp .nil hb del_self hm hd (fun j C' xs hj q => by
    unfold startE at q
    by_cases h : j < (D.ref p :: ds).length
    · rw [List.getElem?_append_left (by simpa using h), List.getElem?_map] at q
      cases h2 : (D.ref p :: ds)[j]? with
      | none => rw [h2] at q; cases q
      | some d2 => rw [h2] at q; cases q
    · rw [List.getElem?_append_right (by simp at h ⊢; omega), List.getElem?_replicate] at q
      split at q <;> cases q)
  have e1 : (startE N.length (.ref p :: ds)).set 0 (.b n []) = startB N.length n ds := rfl
  have e2 : (L2.start N (.ref p :: us)).set 0 (some (.ref p)) = L2.start N (.ref p :: us) := rfl
  rw [e1, e2] at r2
  exact r2
end
end VL
set_option maxRecDepth 100000
set_option maxHeartbeats 4000000
namespace VL
open PySem PySem.Spec PyProof.Rows L2
/-! ### __init__ : its body -/
section
variable {P : Program} {w : World} {K : PySem.W.Frag} {c : Cs} {mg : Str → Option Value} {base : Heap}
theorem at0_inv {n : Nat} {ρ : En} {fs : List (Str × D)} (h : at0 n ρ = .ok fs) : ρ[(0 : Nat)]? = some (.b n fs) := by
  unfold at0 at h
  cases e : ρ[(0 : Nat)]? with
  | none => rw [e] at h; cases h
  | some x =>
    rw [e] at h
    cases x with
    | b C gs =>
      dsimp only at h
      by_cases q : C = n
      · rw [if_pos q] at h; cases h; rw [q]
      · rw [if_neg q] at h; cases h
    | _ => cases h
theorem at0_er {n C : Nat} {ρ : En} (h : at0 n ρ = .er C) : False := by
  unfold at0 at h
  split at h
  · split at h <;> cases h
  · cases h
theorem del_of {H : Hp} {p a : Addr} {o : HO} (h : del H p a = some o) : a ≠ p ∧ H a = some o := by
  by_cases q : a = p
  · subst q; rw [del_self] at h; cases h
  · rw [del_ne q] at h; exact ⟨q, h⟩
theorem up_del {B H B' H' : Hp} {p : Addr} (s0 : Same B H) (s : Same B B') (bh : Same B' H') (fh : Same (del (apart B H) p) H') (fb : ∀ a, del (apart B H) p a ≠ none → B' a = none) : Up B (del H p) B' H' where
  b := s
  bh := bh
  h := fun a o e => by
    obtain ⟨q, e⟩ := del_of e
    cases h : B a with
    | some u =>
      have h2 := s0 a u h
      rw [e] at h2
      cases h2
      exact bh a o (s a o h)
    | none => exact fh a o (by rw [del_ne q]; unfold apart; rw [h]; exact e)
  out := fun a e n => by
    cases h : del H p a with
    | none => exact absurd h e
    | some o =>
      obtain ⟨q, h⟩ := del_of h
      exact fb a (by rw [del_ne q]; unfold apart; rw [n, h]; exact fun z => nomatch z)
theorem fn_okB {x qual : Str} {st : Stmt} {f : Addr} {fd : FuncData} {N ps : List Str} {k : Nat} (n np C : Nat) (g : En → Out) (F : Fun K x qual st f fd) (S : FnScope N ps (defScope st)) (hn : N.length = n) (hnp : ps.length = np) (hp : np ≤ n)
    (hb : ∀ (me md : Addr) (cdv : Value) (A : Around) (outer : List Env) (s : Shared) (H : Hp) (E : XK), Room k (A.deeper (envOfC qual (defScope st) s.heap.objs.size f cdv)) → Ctx (cxOf (L2.CX P w) P w K mg base N qual (defScope st) f cdv A outer s H E) (WF (c.at me md) E) →
      ∃ t, VSs (cxOf (L2.CX P w) P w K mg base N qual (defScope st) f cdv A outer s H E) (WF (c.at me md) E) (defBody st) t g) : FnOk P w K mg base (L2.CX P w) (k + 1) f fd ps (spI K c C np (fnB n C g)) := by
  subst hn hnp
  refine F.okX S (fun vs H Q E h => ?_) (fun cdv A outer s H vs Q E hr h => ?_)
  · obtain ⟨B, ds, p, dx, us, rfl, _, _, _, r, hl, _⟩ := h
    rw [List.length_cons, ← r.length, hl]
  · obtain ⟨B, ds, p, dx, us, rfl, hp2, hb0, sb, r, hl, q⟩ := h
    obtain ⟨t, V⟩ := hb p dx cdv A outer s H E hr (ctx_of (c := c.at p dx) S.nd)
    have r' : RepL K (c.at p dx) B ds us := RepL.chg (c := c) (c' := c.at p dx) rfl r (.inr fun _ _ h => h)
    refine ⟨t, V.ps, V.ok (del (apart B H) p) B H (startB N.length C ds) _ _ (start_b (c := c.at p dx) sb r' (by rw [hl]; exact hp) hp2 hb0 rfl rfl) ?_⟩
    unfold fnB finB at q
    cases h : g (startB N.length C ds) with
    | nx ρ =>
      rw [h] at q
      dsimp only at q
      cases h2 : at0 C ρ with
      | no => rw [h2] at q; exact q.elim
      | er C' => exact (at0_er h2).elim
      | ok fs =>
        rw [h2] at q
        intro B' H' σ' s r2
        obtain ⟨p', dx', gs, a1, a2, a3, a4, a5, a6, a7⟩ := r2.objs 0 C fs (at0_inv h2)
        cases a6
        cases a7
        exact q B' H' gs (up_del sb s r2.bh r2.fh r2.fb) a2 (RepF.chg (c := c.at p dx) (c' := c) rfl a3 (.inr fun _ _ h => h)) a4
    | er C' ρ =>
      rw [h] at q
      intro B' H' σ' s r2
      exact q B' H' (up_del sb s r2.bh r2.fh r2.fb)
    | _ => rw [h] at q; exact q.elim
end
section
variable {P : Program} {w : World} {K : PySem.W.Frag} {c : Cs} {mg : Str → Option Value} {base : Heap}
/-! ### what is known at c is known wherever the own instance stands -/
theorem repL_at {B : Hp} {p d : Addr} {ds : List D} {vs : List V} : RepL K (c.at p d) B ds vs ↔ RepL K c B ds vs :=
  ⟨fun r => RepL.chg (c := c.at p d) (c' := c) rfl r (.inr fun _ _ h => h), fun r => RepL.chg (c := c) (c' := c.at p d) rfl r (.inr fun _ _ h => h)⟩
theorem rep_at {B : Hp} {p d : Addr} {x : D} {v : V} : Rep K (c.at p d) B x v ↔ Rep K c B x v :=
  ⟨fun r => Rep.chg (c := c.at p d) (c' := c) rfl r (.inr fun _ _ h => h), fun r => Rep.chg (c := c) (c' := c.at p d) rfl r (.inr fun _ _ h => h)⟩
theorem spV_at {n : Nat} {g : List D → R D} {p d : Addr} {vs : List V} {H : Hp} {Q : VK} {E : XK} (h : spV K (c.at p d) n g vs H Q E) : spV K c n g vs H Q E := by
  obtain ⟨B, ds, s, r, hl, q⟩ := h
  refine ⟨B, ds, s, repL_at.mp r, hl, ?_⟩
  cases e : g ds with
  | ok x => rw [e] at q; exact fun v B' H' u hv => q v B' H' u (rep_at.mpr hv)
  | er C => rw [e] at q; exact q
  | no => rw [e] at q; exact q
theorem spN_at {n : Nat} {g : List D → R (List D)} {p d : Addr} {vs : List V} {H : Hp} {Q : VK} {E : XK} (h : spN K (c.at p d) n g vs H Q E) : spN K c n g vs H Q E := by
  obtain ⟨B, ds, s, r, hl, q⟩ := h
  refine ⟨B, ds, s, repL_at.mp r, hl, ?_⟩
  cases e : g ds with
  | ok x => rw [e] at q; exact fun a vs B' H' u n1 n2 e2 hv => q a vs B' H' u n1 n2 e2 (repL_at.mpr hv)
  | er C => rw [e] at q; exact q
  | no => rw [e] at q; exact q
theorem DefAt.imp {x : Str} {k n : Nat} {sp sp' : Sp} (F : DefAt P w K mg base x k n sp) (h : ∀ vs H Q E, sp' vs H Q E → sp vs H Q E) : DefAt P w K mg base x k n sp' := by
  obtain ⟨f, fd, ps, F, a, b, e, l⟩ := F
  exact ⟨f, fd, ps, F.imp h, a, b, e, l⟩
theorem DefAt.atV {x : Str} {k n m : Nat} {g : List D → R D} (F : DefAt P w K mg base x k n (spV K c m g)) (p d : Addr) : DefAt P w K mg base x k n (spV K (c.at p d) m g) := F.imp fun _ _ _ _ h => spV_at h
theorem DefAt.atN {x : Str} {k n m : Nat} {g : List D → R (List D)} (F : DefAt P w K mg base x k n (spN K c m g)) (p d : Addr) : DefAt P w K mg base x k n (spN K (c.at p d) m g) := F.imp fun _ _ _ _ h => spN_at h
theorem ExcAt.at {x : Str} {n : Nat} (e : ExcAt K c mg x n) (p d : Addr) : ExcAt K (c.at p d) mg x n := ⟨e.g, e.q, e.k, e.s, e.t⟩
theorem con_at {x : Str} {k : D} (e : ∃ a, mg x = some (.ref a) ∧ ∀ B, Rep K c B k (.ref a)) (p d : Addr) : ∃ a, mg x = some (.ref a) ∧ ∀ B, Rep K (c.at p d) B k (.ref a) :=
  let ⟨a, h1, h2⟩ := e; ⟨a, h1, fun B => rep_at.mpr (h2 B)⟩
theorem FldTab.at {m : Nat → Str → Bool} (T : FldTab K c m) (p d : Addr) : FldTab K (c.at p d) m := ⟨T.ok⟩
theorem MethAt.imp {n k ar : Nat} {m : Str} {sp sp' : Sp} (F : MethAt P w K c mg base n m k ar sp) (h : ∀ vs H Q E, sp' vs H Q E → sp vs H Q E) (p d : Addr) : MethAt P w K (c.at p d) mg base n m k ar sp' := by
  obtain ⟨⟨f, fd, ps, F, a, b, e⟩, cl⟩ := F
  exact ⟨⟨f, fd, ps, F.imp h, a, b, e⟩, cl⟩
theorem MethAt.atV {n k ar a : Nat} {m : Str} {g : List D → R D} (F : MethAt P w K c mg base n m k ar (spV K c a g)) (p d : Addr) : MethAt P w K (c.at p d) mg base n m k ar (spV K (c.at p d) a g) := F.imp (fun _ _ _ _ h => spV_at h) p d
theorem MethAt.atN {n k ar a : Nat} {m : Str} {g : List D → R (List D)} (F : MethAt P w K c mg base n m k ar (spN K c a g)) (p d : Addr) : MethAt P w K (c.at p d) mg base n m k ar (spN K (c.at p d) a g) := F.imp (fun _ _ _ _ h => spN_at h) p d
end
/-! ### an own instance's field read -/
def dFldB (m : Nat → Str → Bool) (i : Nat) (x : Str) : En → R D := fun ρ => match ρ[i]? with
  | some (.b C fs) => if m C x = true then ofO (fs.lookup x) else .no
  | _ => .no
section
variable {X : Cx} {W : Ws} {e : Expr} {es : List Expr} {tA : TA} {h1 : En → R (List D)} {p pos apos : Pos}
theorem ve_fldB {s x : Str} {m : Nat → Str → Bool} (i : Nat) (T : FldTab X.K W.c m) (hN : X.N[i]? = some s := by rfl) (hv : Vis X.env.scope s := by first | exact Or.inl rfl | exact Or.inr (Or.inl rfl) | exact Or.inr (Or.inr rfl)) (hd : (s == ("__debug__" : Str)) = false := by decide)
    (hcd : (s == ("__classdict__" : Str)) = false := by decide) (hb : attributeBase (.Name s p) x X.env (eval (.Name s p) X.env) = eval (.Name s p) X.env := by rfl) : VE X W (.Attribute (.Name s p) x pos) (tFld X.K (tVar i) x) (dFldB m i x) :=
  ⟨pe_fld (pe_var hN hv hd hcd) hb, fun Fo B H ρ σ Q rs q => by
    unfold dFldB at q
    cases hi : ρ[i]? with
    | none => rw [hi] at q; exact q.elim
    | some sl =>
      rw [hi] at q
      cases sl with
      | b C fs =>
        dsimp only at q
        by_cases hm : m C x = true
        · rw [if_pos hm] at q
          cases h2 : fs.lookup x with
          | none => rw [h2] at q; exact q.elim
          | some y =>
            rw [h2] at q
            obtain ⟨a, dx, gs, a1, a2, a3, a4, a5⟩ := rs.objs i C fs hi
            obtain ⟨z, hz, rz⟩ := a3.look h2
            obtain ⟨c1, c2⟩ := T.ok C x hm
            exact ⟨_, a1, a, _, dx, gs, z, rfl, a2, c1, c2, hz, q z B H rs.same rz⟩
        · rw [if_neg hm] at q
          exact q.elim
      | _ => exact q.elim⟩
/-! ### C(..) -/
def tMakeS (C : Addr) (sp : Sp) (E : L2.St → XK) (t : TA) : TE := fun σ H Q => t σ H fun vs H1 => ∀ x dx, H1 x = none → H1 dx = none → dx ≠ x →
  sp (.ref x :: vs) (upd (upd H1 dx (.own x)) x (.ins C dx [])) (fun v H2 => v = .non ∧ Q (.ref x) H2) (E σ)
theorem run_makeS {CX : CXT} {k : Nat} {f C : Addr} {fd : FuncData} {ps : List Str} {sp : Sp} {E : L2.St → XK} {pins : List (Addr × Obj)} {σ : L2.St} {H : Hp} {s : Shared} {Q : VK} {us : List Value} {vs : List V} (M : Mk X.K C f) (F : FnOk X.prog X.w X.K X.mg X.base CX k f fd ps sp) (hr : Room (k + 1) X.A) (hb : Binds X.K fd ps [])
    (hx : PassesAt CX X σ (E σ)) (I : Inv X pins σ H s) (r : Vals vs us)
    (h : ∀ x dx, H x = none → H dx = none → dx ≠ x → sp (.ref x :: vs) (upd (upd H dx (.own x)) x (.ins C dx [])) (fun v H2 => v = .non ∧ Q (.ref x) H2) (E σ)) :
    wpAny (model X.prog X.w) X.A (call (.ref C) us) (EP X pins σ Q) X.xe s := by
  have hq := h (s.heap.objs.size + 1) s.heap.objs.size (I.hok.fresh (Nat.le_succ _)) (I.hok.fresh (Nat.le_refl _)) (Nat.ne_of_lt (Nat.lt_succ_self _))
  have I2 := Inv.made (C := C) I
  have r2 : Vals (V.ref (s.heap.objs.size + 1) :: vs) (Value.ref (s.heap.objs.size + 1) :: us) := .cons rfl r
  have hl : ((Value.ref (s.heap.objs.size + 1) :: us) ++ []).length = ps.length := by
    have e := r2.length
    rw [F.len _ _ _ _ hq] at e
    rw [List.append_nil]
    exact e.symm
  have b := hb _ (Value.ref (s.heap.objs.size + 1) :: us) I2.kIn hl
  rw [List.append_nil] at b
  refine wpAny_call (make_map (f := f) I.kIn M.makes M.init (beq_iff_eq.mp M.fn) (codeAny_mono (F.run _ X.stack _ _ ⟨Value.ref (s.heap.objs.size + 1) :: us, []⟩ (Value.ref (s.heap.objs.size + 1) :: us) _ _ (E σ) (hr.make C us [])
    (I2.env0.make C us []) b r2 hq) fun r s' hq' => ?_))
  cases r with
  | error e => exact hx pins _ _ e s' I2 hq'
  | ok fl =>
    cases fl with
    | ret u =>
      obtain ⟨v, H', I3, rv, ev, q3⟩ := I2.after hq'
      subst ev
      exact ⟨rv, ⟨V.ref (s.heap.objs.size + 1), H', I3, rfl, q3⟩⟩
    | next => exact False.elim hq'
    | brk => exact False.elim hq'
    | cont => exact False.elim hq'
theorem pe_makeS {CX : CXT} {k : Nat} {f C : Addr} {fd : FuncData} {ps : List Str} {sp : Sp} {E : L2.St → XK} {x : Str} (M : Mk X.K C f) (F : FnOk X.prog X.w X.K X.mg X.base CX k f fd ps sp) (hr : Room (k + 1) X.A) (hg : Gl X x) (hm : X.mg x = some (.ref C)) (hb : Binds X.K fd ps []) (hx : ∀ σ, PassesAt CX X σ (E σ))
    (ha : PA X (e :: es) tA) (hdb : (x == ("__debug__" : Str)) = false := by decide) (he : starEach (e :: es) X.env = (false, eval e X.env) :: starEach es X.env := by rfl) (hpl : (backTo pos (starEach es X.env)).any (·.1) = false := by rfl) :
    PE X (.Call (.Name x p) (e :: es) [] pos) (tMakeS C sp E tA) := by
  refine ⟨fun pins s σ H Q I h => ?_⟩
  refine wpAny_Call_Name_kw (ld_glob I hg hm ?_ hdb)
  refine PySem.W.callWith_K (h₀ := X.base) I.ok.mod.kin M.kp (thn (ha.run pos pins s σ H _ I h) fun us s1 ⟨vs, H1, I1, r, q⟩ => ⟨I1.kIn, ?_⟩) he hpl
  exact run_makeS M F hr hb (hx σ) I1 r q
/-- the class n, named x, makes instances; its __init__ keeps the promise sp -/
structure MakeAt (P : Program) (w : World) (K : PySem.W.Frag) (c : Cs) (mg : Str → Option Value) (base : Heap) (x : Str) (n k ar : Nat) (sp : Sp) : Prop where
  ex : ∃ fa fd ps, FnOk P w K mg base (L2.CX P w) k fa fd ps sp ∧ Mk K (c.cl n) fa ∧ mg x = some (.ref (c.cl n)) ∧ Binds K fd ps [] ∧ ps.length = ar
theorem spI_at {K : PySem.W.Frag} {c : Cs} {n ar : Nat} {g : List D → R (List (Str × D))} {p d : Addr} {vs : List V} {H : Hp} {Q : VK} {E : XK} (h : spI K (c.at p d) n ar g vs H Q E) : spI K c n ar g vs H Q E := by
  obtain ⟨B, ds, x, dx, us, e1, e2, e3, s, r, hl, q⟩ := h
  refine ⟨B, ds, x, dx, us, e1, e2, e3, s, repL_at.mp r, hl, ?_⟩
  cases e : g ds with
  | ok fs => rw [e] at q; exact fun B' H' gs u a1 a2 a3 => q B' H' gs u a1 (RepF.chg (c := c) (c' := c.at p d) rfl a2 (.inr fun _ _ h => h)) a3
  | er C => rw [e] at q; exact q
  | no => rw [e] at q; exact q
theorem MakeAt.atI {P : Program} {w : World} {K : PySem.W.Frag} {c : Cs} {mg : Str → Option Value} {base : Heap} {x : Str} {n k ar a : Nat} {g : List D → R (List (Str × D))} (F : MakeAt P w K c mg base x n k ar (spI K c n a g)) (p d : Addr) : MakeAt P w K (c.at p d) mg base x n k ar (spI K (c.at p d) n a g) := by
  obtain ⟨f, fd, ps, F, a, b, e, l⟩ := F
  exact ⟨f, fd, ps, F.imp fun _ _ _ _ h => spI_at h, a, b, e, l⟩
def dMake (n : Nat) (g : List D → R (List (Str × D))) (fa : En → R (List D)) : En → R D := fun ρ => (fa ρ).bind fun xs => (g xs).bind fun fs => .ok (.obj n fs)
theorem tMake_ok {n ar : Nat} {g : List D → R (List (Str × D))} (ha : VA X W es tA h1) (hl : ∀ ρ ds, h1 ρ = .ok ds → ds.length + 1 = ar) {Fo B H ρ σ Q} (rs : RS X.K W.c Fo B H ρ σ) (q : EPost X.K W σ B H (dMake n g h1 ρ) Q) : tMakeS (W.c.cl n) (spI X.K W.c n ar g) (WE W.W) tA σ H Q := by
  unfold dMake at q
  refine ha.ok Fo B H ρ σ _ rs ?_
  cases h : h1 ρ with
  | no => rw [h] at q; exact q
  | er C => rw [h] at q; exact q
  | ok xs =>
    rw [h, R.bind_ok] at q
    intro vs B1 H1 u1 r x dx hx hdx hne
    have bx : B1 x = none := u1.bh.free hx
    have keep : ∀ a o, H1 a = some o → upd (upd H1 dx (.own x)) x (.ins (W.c.cl n) dx []) a = some o := fun a o e => by
      rw [upd_ne (ne_of_none e hx), upd_ne (ne_of_none e hdx)]; exact e
    have up : ∀ {B2 H2 : Hp}, Up B1 (del (upd (upd H1 dx (.own x)) x (.ins (W.c.cl n) dx [])) x) B2 H2 → Up B1 H1 B2 H2 := fun {B2 H2} u => ⟨u.b, u.bh, fun a o e => u.h a o (by rw [del_ne (ne_of_none e hx)]; exact keep a o e), fun a e nb => by
      cases h : H1 a with
      | none => exact absurd h e
      | some o => exact u.out a (by rw [del_ne (ne_of_none h hx), keep a o h]; exact fun z => nomatch z) nb⟩
    refine ⟨B1, xs, x, dx, vs, rfl, upd_same, bx, fun a o e => keep a o (u1.bh a o e), r, hl ρ xs h, ?_⟩
    cases h3 : g xs with
    | no => rw [h3] at q; exact q
    | er C => rw [h3] at q; exact fun B2 H2 u2 => q B2 H2 (u1.trans (up u2))
    | ok fs =>
      rw [h3] at q
      intro B2 H2 gs u2 hp2 hr2 nb2
      refine ⟨rfl, q (.ref x) (upd B2 x (.ins (W.c.cl n) dx gs)) H2 (u1.trans ((up u2).share hx hp2 nb2)) (.obj upd_same (hr2.up fun a o e => ?_))⟩
      rw [upd_ne (ne_of_none e nb2)]; exact e
theorem ve_make {x : Str} {n k ar : Nat} {g : List D → R (List (Str × D))} (M : MakeAt X.prog X.w X.K W.c X.mg X.base x n k ar (spI X.K W.c n ar g)) (hr : Room (k + 1) X.A) (tk : Takes X W.W) (ha : VA X W (e :: es) tA h1) (hg : Gl X x := by rfl) (hl : ∀ ρ ds, h1 ρ = .ok ds → ds.length + 1 = ar := by refine len_up ?_; repeat (first | exact len_nil | refine len_cons ?_))
    (hdb : (x == ("__debug__" : Str)) = false := by decide) (he : starEach (e :: es) X.env = (false, eval e X.env) :: starEach es X.env := by rfl) (hpl : (backTo pos (starEach es X.env)).any (·.1) = false := by rfl) :
    VE X W (.Call (.Name x p) (e :: es) [] pos) (tMakeS (W.c.cl n) (spI X.K W.c n ar g) (WE W.W) tA) (dMake n g h1) := ⟨by
      obtain ⟨fa, fd, ps, F, M, hm, hb, _⟩ := M.ex
      exact pe_makeS M F hr hg hm hb (fun σ => passAt tk σ) ha.pe hdb he hpl, fun _ _ _ _ _ _ rs q => tMake_ok ha hl rs q⟩
end
end VL
set_option maxRecDepth 100000
set_option maxHeartbeats 4000000
namespace VL
open PySem PySem.Spec PyProof.Rows L2
/-! ### str(i), texts cut, isinstance of instances -/
section
variable {K : PySem.W.Frag} {c : Cs}
def gStr : List D → Option D := fun ds => match ds with
  | [.int i] => if i.natAbs.log2 < 1920 then some (.str (toString i)) else none
  | _ => none
theorem gStr_ok : CBOk K c (fun xs H Q => ∃ i, xs = [.int i] ∧ i.natAbs.log2 < 1920 ∧ Q (.str (toString i)) H) gStr := fun B H ds vs Q d s hr e q => by
  unfold gStr at e
  split at e
  · rename_i i
    by_cases hl : i.natAbs.log2 < 1920
    · rw [if_pos hl] at e
      cases e
      cases hr with
      | cons h1 t1 =>
        cases t1
        cases repT_int h1
        exact ⟨i, rfl, hl, q _ B H (Up.refl s) (.str _)⟩
    · rw [if_neg hl] at e
      cases e
  · cases e
/-- which instances are what: against built-in classes, against own ones -/
structure ObjIs (K : PySem.W.Frag) (c : Cs) (m : Nat → String → Option Bool) : Prop where
  ok : ∀ n T b, m n T = some b → Cls K (c.cl n) ∧ PySem.W.findIn K (.ref (c.cl n)) "__class__" = some (some (.builtin "object.__class__")) ∧
    PySem.W.specialIn K (.builtin "object.__class__") "__get__" = some (some (.builtin "getset_descriptor.__get__")) ∧ PySem.W.takesIn K (.builtin "object.__class__") = some true ∧
    PySem.W.mroIn K (c.cl n) (.type "object") = some true ∧ PySem.W.kitOne K (.ref (c.cl n)) (.type T) = some b
def gIsO (m : Nat → String → Option Bool) : List D → Option D := fun ds => match ds with
  | [.obj n _, .ty T] => (m n T).map .bl
  | ds => gIsi ds
theorem gIsO_ok {m : Nat → String → Option Bool} (T : ObjIs K c m) : CBOk K c (rIsi K) (gIsO m) := fun B H ds vs Q d s hr e q => by
  unfold gIsO at e
  split at e
  · rename_i n fs t
    obtain ⟨b, h2, rfl⟩ := Option.map_eq_some_iff.mp e
    obtain ⟨f1, f2, f3, f4, f5, f6⟩ := T.ok n t b h2
    obtain ⟨v, w, rfl, hv, hw⟩ := repTL_2 hr
    cases repT_ty hw
    rcases hv with hv | ⟨_, _, _, z, _⟩
    · cases hv with
      | obj h1 h3 => exact ⟨_, .ty t, .ref (c.cl n), .type t, b, rfl, .ty t, .base (.ins (s _ _ h1) f1 f2 f3 f4 f5), f6, q _ B H (Up.refl s) (.bl _)⟩
    · cases z
  · exact gIsi_ok B H ds vs Q d s hr e q
end
section
variable {K : PySem.W.Frag} {c : Cs}
/-! ### tables -/
def inT (l : List (Nat × Str)) (n : Nat) (f : Str) : Bool := l.any fun p => p.1 == n && p.2 == f
theorem fld_of {l : List (Nat × Str)} (h : ∀ p ∈ l, Cls K (c.cl p.1) ∧ NoAttr K (c.cl p.1) p.2) : FldTab K c (inT l) := ⟨fun n f e => by
  obtain ⟨p, hp, e⟩ := List.any_eq_true.mp e
  simp only [Bool.and_eq_true, beq_iff_eq] at e
  obtain ⟨rfl, rfl⟩ := e
  exact h p hp⟩
def inO (l : List (Nat × String × Bool)) (n : Nat) (T : String) : Option Bool := (l.find? fun p => p.1 == n && p.2.1 == T).map (·.2.2)
theorem iso_of {l : List (Nat × String × Bool)} (h : ∀ p ∈ l, Cls K (c.cl p.1) ∧ PySem.W.findIn K (.ref (c.cl p.1)) "__class__" = some (some (.builtin "object.__class__")) ∧
    PySem.W.specialIn K (.builtin "object.__class__") "__get__" = some (some (.builtin "getset_descriptor.__get__")) ∧ PySem.W.takesIn K (.builtin "object.__class__") = some true ∧
    PySem.W.mroIn K (c.cl p.1) (.type "object") = some true ∧ PySem.W.kitOne K (.ref (c.cl p.1)) (.type p.2.1) = some p.2.2) : ObjIs K c (inO l) := ⟨fun n T b e => by
  obtain ⟨p, hp, rfl⟩ := Option.map_eq_some_iff.mp e
  have h1 := List.find?_some hp
  simp only [Bool.and_eq_true, beq_iff_eq] at h1
  obtain ⟨rfl, rfl⟩ := h1
  exact h p (List.mem_of_find?_eq_some hp)⟩
end
section
variable {X : Cx} {W : Ws} {e : Expr} {es : List Expr} {ta : TE} {fa : En → R D} {tA : TA} {fn : En → R (List D)} {p pos p2 : Pos}
theorem ve_strc (hm : X.mg "str" = none) (ha : VAP X W (e :: es) tA fn) (hg : Gl X "str" := by rfl) (he : starEach (e :: es) X.env = (false, eval e X.env) :: starEach es X.env := by rfl) (hpl : (backTo pos (starEach es X.env)).any (·.1) = false := by rfl) :
    VE X W (.Call (.Name "str" p) (e :: es) [] pos) (tCB (fun xs H Q => ∃ i, xs = [.int i] ∧ i.natAbs.log2 < 1920 ∧ Q (.str (toString i)) H) tA) (dCB gStr fn) := ve_callTy call_str_int gStr_ok hm (by decide +kernel) ha hg (by decide) (by decide) he hpl
theorem ve_isO {m : Nat → String → Option Bool} (T : ObjIs X.K W.c m) (hm : X.mg "isinstance" = none) (ha : VAP X W (e :: es) tA fn) (hg : Gl X "isinstance" := by rfl) (he : starEach (e :: es) X.env = (false, eval e X.env) :: starEach es X.env := by rfl) (hpl : (backTo pos (starEach es X.env)).any (·.1) = false := by rfl) :
    VE X W (.Call (.Name "isinstance" p) (e :: es) [] pos) (tCB (rIsi X.K) tA) (dCB (gIsO m) fn) := ve_callB call_isi (gIsO_ok T) hm (by decide +kernel) ha hg (by decide) (by decide) he hpl
def dSlS (f : En → R D) (fl fh : En → R (Option Int)) : En → R D := fun ρ => (f ρ).bind fun d => (fl ρ).bind fun l => (fh ρ).bind fun h => match d with
  | .str z => if z.length ≤ sizeLine then .ok (.str (cutS z l h)) else .no
  | _ => .no
theorem ve_sliceS {lo hi : Option Expr} {tl th : TO} {fl fh : En → R (Option Int)} (ha : VE X W e ta fa) (hl : VO X W lo tl fl) (hh : VO X W hi th fh) : VE X W (.Subscript e (.Slice lo hi none p2) pos) (tSl rSlS ta tl th) (dSlS fa fl fh) :=
  ⟨pe_slice sl_str ha.pe hl.pe hh.pe, fun Fo B H ρ σ Q r q => by
    unfold dSlS at q
    refine ha.ok Fo B H ρ σ _ r ?_
    cases h1 : fa ρ with
    | no => rw [h1] at q; exact q
    | er C => rw [h1] at q; exact q
    | ok d =>
      rw [h1, R.bind_ok] at q
      intro v B1 H1 u1 hv
      refine hl.ok Fo B1 H1 ρ σ _ (r.up u1) ?_
      cases h2 : fl ρ with
      | no => rw [h2] at q; exact q
      | er C => rw [h2] at q; exact fun B' H' u => q B' H' (u1.trans u)
      | ok l =>
        rw [h2, R.bind_ok] at q
        intro B2 H2 u2
        have u12 := u1.trans u2
        refine hh.ok Fo B2 H2 ρ σ _ (r.up u12) ?_
        cases h3 : fh ρ with
        | no => rw [h3] at q; exact q
        | er C => rw [h3] at q; exact fun B' H' u => q B' H' (u12.trans u)
        | ok h =>
          rw [h3, R.bind_ok] at q
          intro B3 H3 u3
          have u13 := u12.trans u3
          cases d with
          | str z =>
            cases hv with
            | str =>
              dsimp only at q
              by_cases hz : z.length ≤ sizeLine
              · rw [if_pos hz] at q
                exact ⟨z, rfl, hz, q _ B3 H3 u13 (.str _)⟩
              · rw [if_neg hz] at q
                exact q.elim
          | _ => exact q.elim⟩
end
section
variable {X : Cx} {W : Ws}
theorem ve_isEC {m : Nat → Nat → Option Bool} {oe : Obj} {k : Nat} {e : Expr} {es : List Expr} {tA : TA} {fn : En → R (List D)} {p pos : Pos} (C : Ctx X W) (a : Addr) (pn : List (Addr × Obj)) (hx : ExcC X.K (W.c.cl k)) (T : IsTab X.K W.c m) (hz : Zc (.ref (W.c.cl k)) none oe) (hf : ∃ vs, oe.data = .fields vs) (hm : X.mg "isinstance" = none)
    (ha : VAP (X.suite a ((a, oe) :: pn)) (W.exc a k) (e :: es) tA fn) (hg : Gl (X.suite a ((a, oe) :: pn)) "isinstance" := by rfl) (he : starEach (e :: es) X.env = (false, eval e X.env) :: starEach es X.env := by rfl) (hpl : (backTo pos (starEach es X.env)).any (·.1) = false := by rfl) :
    VE (X.suite a ((a, oe) :: pn)) (W.exc a k) (.Call (.Name "isinstance" p) (e :: es) [] pos) (tCB (rIsE X.K (W.c.cl k) a) tA) (dCB (gIsE m) fn) := ve_isE hx T hz hf hm ha hg he hpl
theorem vt_truthS {a : Addr} {pn : List (Addr × Obj)} {W' : Ws} {e : Expr} {t : TE} {f : En → R D} (C : Ctx X W) (h : VP (X.suite a pn) W' e t f) (he : ∀ whole, isTrue e X.env whole = (do let v ← whole; standAt e.pos; holding [v] (truthy v)) := by intro _; rfl) : VT (X.suite a pn) W' e (fun σ H Q => t σ H fun x H' => ∃ k, TruV X.K x H' k ∧ Q k H') (dTru f) := vt_truth h he
end
end VL
set_option maxRecDepth 100000
set_option maxHeartbeats 4000000
namespace VL
open PySem PySem.Spec PyProof.Rows L2
/-! ### closed data compared -/
mutual
def beqD : D → D → Bool
  | .non, .non => true
  | .bl a, .bl b => a == b
  | .int a, .int b => a == b
  | .str a, .str b => a == b
  | .ty a, .ty b => a == b
  | .exc a, .exc b => a == b
  | .cls a, .cls b => a == b
  | .lst xs, .lst ys => beqL xs ys
  | .tup xs, .tup ys => beqL xs ys
  | .ro xs, .ro ys => beqL xs ys
  | .ct xs, .ct ys => beqL xs ys
  | .obj C fs, .obj C' gs => C == C' && beqF fs gs
  | _, _ => false
def beqL : List D → List D → Bool
  | [], [] => true
  | d :: ds, e :: es => beqD d e && beqL ds es
  | _, _ => false
def beqF : List (Str × D) → List (Str × D) → Bool
  | [], [] => true
  | (f, d) :: ds, (g, e) :: es => f == g && beqD d e && beqF ds es
  | _, _ => false
end
mutual
theorem beqD_ok : ∀ {x y : D}, beqD x y = true → x = y
  | .non, y, h => by cases y <;> simp_all [beqD]
  | .bl a, y, h => by cases y <;> simp_all [beqD]
  | .int a, y, h => by cases y <;> simp_all [beqD]
  | .str a, y, h => by cases y <;> simp_all [beqD]
  | .ref a, y, h => by cases y <;> simp_all [beqD]
  | .ty a, y, h => by cases y <;> simp_all [beqD]
  | .exc a, y, h => by cases y <;> simp_all [beqD]
  | .cls a, y, h => by cases y <;> simp_all [beqD]
  | .lst xs, y, h => by cases y <;> simp only [beqD, Bool.false_eq_true] at h; exact congrArg _ (beqL_ok h)
  | .tup xs, y, h => by cases y <;> simp only [beqD, Bool.false_eq_true] at h; exact congrArg _ (beqL_ok h)
  | .ro xs, y, h => by cases y <;> simp only [beqD, Bool.false_eq_true] at h; exact congrArg _ (beqL_ok h)
  | .ct xs, y, h => by cases y <;> simp only [beqD, Bool.false_eq_true] at h; exact congrArg _ (beqL_ok h)
  | .obj C fs, y, h => by
    cases y <;> simp only [beqD, Bool.false_eq_true, Bool.and_eq_true, beq_iff_eq] at h
    rw [h.1, beqF_ok h.2]
theorem beqL_ok : ∀ {xs ys : List D}, beqL xs ys = true → xs = ys
  | [], [], _ => rfl
  | [], _ :: _, h => by simp [beqL] at h
  | _ :: _, [], h => by simp [beqL] at h
  | d :: ds, e :: es, h => by
    simp only [beqL, Bool.and_eq_true] at h
    rw [beqD_ok h.1, beqL_ok h.2]
theorem beqF_ok : ∀ {xs ys : List (Str × D)}, beqF xs ys = true → xs = ys
  | [], [], _ => rfl
  | [], _ :: _, h => by simp [beqF] at h
  | _ :: _, [], h => by simp [beqF] at h
  | (f, d) :: ds, (g, e) :: es, h => by
    simp only [beqF, Bool.and_eq_true, beq_iff_eq] at h
    rw [h.1.1, beqD_ok h.1.2, beqF_ok h.2]
end
/-- r is y -/
def isD (r : R D) (y : D) : Bool := match r with
  | .ok x => beqD x y
  | _ => false
theorem isD_ok {r : R D} {y : D} (h : isD r y = true) : r = .ok y := by
  cases r with
  | ok x => exact congrArg _ (beqD_ok h)
  | _ => cases h
def isS (o : Option D) (y : D) : Bool := match o with
  | some x => beqD x y
  | none => false
theorem isS_ok {o : Option D} {y : D} (h : isS o y = true) : o = some y := by
  cases o with
  | some x => exact congrArg _ (beqD_ok h)
  | none => cases h
/-! ### texts -/
theorem gAdd_s {s t : Str} (h : s.length + t.length ≤ sizeLine) : gAdd (.str s) (.str t) = some (.str (s ++ t)) := by unfold gAdd; exact if_pos h
theorem gStr_i {i : Int} (h : i.natAbs.log2 < 1920) : gStr [.int i] = some (.str (toString i)) := by unfold gStr; exact if_pos h
theorem gIsO_o {m : Nat → String → Option Bool} {n : Nat} {fs : List (Str × D)} {T : String} : gIsO m [.obj n fs, .ty T] = (m n T).map .bl := rfl
theorem log_ok {i : Int} (h : i.natAbs < 2 ^ 64) : i.natAbs.log2 < 1920 := by
  by_cases q : i.natAbs = 0
  · rw [q]; decide
  · have := (Nat.log2_lt q).mpr h
    omega
/-- an error of the class at S is what «except T» names, or is not -/
theorem exm_of {K : PySem.W.Frag} {S T : Addr} {b : Bool} (h1 : PySem.W.subIn K (.ref T) (.type "BaseException") = some true) (h2 : PySem.W.isClsIn K T = true) (h3 : PySem.W.typeIn K (.ref T) = some (.type "type")) (h4 : PySem.W.subIn K (.ref S) (.ref T) = some b) :
    PySem.W.exmOne K (.ref S) (.ref T) = some b := by
  have e1 : (PySem.W.subIn K (.ref T) (.type "BaseException") == some true) = true := by rw [h1] <;> rfl
  have e2 : ((PySem.W.clsIn K T).isSome && PySem.W.typeIn K (.ref T) == some (.type "type")) = true := by
    have h2' : (PySem.W.clsIn K T).isSome = true := h2
    rw [h2', h3] <;> rfl
  show (if (PySem.W.subIn K (.ref T) (.type "BaseException") == some true) = true then (if ((PySem.W.clsIn K T).isSome && PySem.W.typeIn K (.ref T) == some (.type "type")) = true then PySem.W.subIn K (.ref S) (.ref T) else none) else none) = some b
  rw [if_pos e1, if_pos e2]
  exact h4
end VL
namespace VL
/-- turns that a while loop may take -/
def fuelN : Nat := 1000000
end VL
set_option maxRecDepth 100000
set_option maxHeartbeats 4000000
namespace PySem
/-! ### enumerate(v) begins, for a v whose iterator is known -/
theorem meets_enumerate_newB1 {v : Value} {o : Obj} {H : Heap → Prop} (B : Begins v o H) :
    Meets (Builtin.«enumerate.__new__» ⟨[.type "enumerate", v], []⟩) (fun _ R s => H s.heap ∧
      R (.ok (.ret (.ref (s.heap.push o).objs.size))) { s with heap := (s.heap.push o).push { cls := .type "enumerate", data := .fields #[.none, .bool false, .ref s.heap.objs.size, rawInt 0, .none, .none] } }) :=
  .of_wp fun prog w A R s h => by
    obtain ⟨hp, g, d, tk, os⟩ := s; obtain ⟨h1, h⟩ := h
    have hsub := sub_enumerate
    have q1 : ∀ {A' : Around} {E : Value → Shared → Prop} {Q : Value → Shared → Prop}, Q (.ref hp.objs.size) ⟨hp.push o, g, d, tk, os⟩ → wpAny (model prog w) A' (pyIter v) Q E ⟨hp, g, d, tk, os⟩ :=
      fun q => B.iter prog w _ _ ⟨hp, g, d, tk, os⟩ _ h1 q
    wp_walk using q1
    refine wpAny_stack_any fun st => wpAny_pure ?_
    split
    · rename_i c _ _ _ _ _
      cases (c == Value.type "enumerate")
      · wp_walk using q1
        exact ⟨_, rfl, h⟩
      · wp_walk using q1
        exact ⟨_, rfl, h⟩
    · wp_walk using q1
      exact ⟨_, rfl, h⟩
section
variable {prog : Program} {w : World} {A : Around} {E : Value → Shared → Prop} {s : Shared}
theorem enum_begins1 {v : Value} {o : Obj} {H : Heap → Prop} {Q : Value → Shared → Prop} (B : Begins v o H) (h1 : H s.heap)
    (h : ∀ h', IsEnum h' (s.heap.objs.size + 1) s.heap.objs.size 0 .none → h'.get? s.heap.objs.size = some o → h'.objs.size = s.heap.objs.size + 2 →
      (∀ b o, s.heap.get? b = some o → h'.get? b = some o) → Q (.ref (s.heap.objs.size + 1)) { s with heap := h' }) :
    wpAny (model prog w) A (call (.type "enumerate") [v]) Q E s := by
  refine callType_new F.called_enumerate (by decide) (F.typeCall_enumerate_1 _) (F.newCall_enumerate_1 _) (fun obj => F.args_object_init_2 obj _) F.entry_enumerate_new
    (meets_enumerate_newB1 B) ⟨h1, ?_⟩
  have hz : (s.heap.push o).objs.size = s.heap.objs.size + 1 := Heap.size_push ..
  show _ ∧ _
  rw [hz]
  have he : IsEnum ((s.heap.push o).push { cls := .type "enumerate", data := .fields #[.none, .bool false, .ref s.heap.objs.size, rawInt 0, .none, .none] }) (s.heap.objs.size + 1) s.heap.objs.size 0 .none := by
    have := Heap.get?_push_size (s.heap.push o) (o := { cls := .type "enumerate", data := .fields #[.none, .bool false, .ref s.heap.objs.size, rawInt 0, .none, .none] }) rfl
    rw [hz] at this; exact this
  refine ⟨⟨_, he, rfl⟩, h _ he (Heap.get?_push_of_some _ (Heap.get?_push_size _ B.free)) (by rw [Heap.size_push, hz]) fun b o x => Heap.get?_push_of_some _ (Heap.get?_push_of_some _ x)⟩
end
end PySem
namespace VL
open PySem PySem.Spec PyProof.Rows L2
/-! ### for i, x in enumerate(t), t a tuple -/
def IteT (K : PySem.W.Frag) (a : Addr) : It :=
  ⟨fun i H => ∃ (xs : List V) (x : V), SqT K H a xs ∧ xs[i]? = some x,
    fun i H v H' => ∃ T x, v = .ref T ∧ H T = none ∧ H' = upd H T (.tup [.int (i : Nat), x]) ∧ ∀ xs, SqT K H a xs → xs[i]? = some x,
    fun i H => ∃ xs : List V, SqT K H a xs ∧ i = xs.length⟩
theorem turn_enumT {P : Program} {w : World} {K : PySem.W.Frag} {elts : List Expr} {kk : Nat} {tpos : Pos} (a e it : Addr) :
    Turn P w K (.Tuple elts kk tpos) (IteT K a) [e, it] e (fun i h => (∃ old, IsEnum h e it ((i : Nat) : Int) old) ∧ h.IsTupleIter it a i ∧ e ≠ it ∧ a ≠ it ∧ e ≠ a) where
  mem := by simp
  obj := fun i h st b hb => by
    obtain ⟨⟨old, he⟩, ⟨o, ho, hc, hd⟩, _⟩ := st
    have e' : b = e ∨ b = it := by simpa using hb
    rcases e' with z | z
    · rw [z]; exact ⟨_, he, fun v q => nomatch q⟩
    · rw [z]; exact ⟨o, ho, fun v q => by rw [hd] at q; cases q⟩
  keep := fun i h h' st k => let ⟨⟨old, he⟩, hi, hne⟩ := st; ⟨⟨old, k e (by simp) _ he⟩, hi.at fun o q => k it (by simp) o q, hne⟩
  item := by
    intro X hP hw hK hc i pins s σ H E I hf st hg
    subst hP hw hK
    obtain ⟨⟨old, he⟩, hit, hne, hai, hea⟩ := st
    obtain ⟨xs, x, hq, hx⟩ := hg
    obtain ⟨its, rv, p, hz⟩ := I.tuple hq
    obtain ⟨u, hu, ru⟩ := rv.get hx
    have hel : e < s.heap.objs.size := Heap.lt_size he
    have hil : it < s.heap.objs.size := by obtain ⟨_, q, _⟩ := hit; exact Heap.lt_size q
    have D := Draws.tuple (prog := X.prog) (w := X.w) (A := X.A.in1) (show X.A.in1.handled = none from I.ok.hd hc) it a hai its.toArray
    have hlt : i < its.toArray.size := by
      have := (List.getElem?_eq_some_iff.mp hu).1
      simpa using this
    refine wpAny_pyNext_enum_itemC D he ⟨hit, show s.heap.IsTuple a its.toArray from p⟩ hlt hne (by simp [hne, hea]) fun u' h' tk hP ho hst' hT hsz hk => ?_
    have eu : u' = u := by
      have h1 : its[i]? = some u' := by simpa using hP
      rw [hu] at h1
      exact (Option.some.inj h1).symm
    subst eu
    refine ⟨_, rfl, wpAny_letOwnedTupleGo_enum (s := { s with heap := h', toks := tk + 1 }) ho fun h'' he' sb => ?_⟩
    have hT2 : h''.get? s.heap.objs.size = some { cls := .type "tuple", data := .seq #[.int i tk, u'] } := (sb.2 _ (Nat.ne_of_gt hel)).trans hT
    have new : ObjOk X.prog X.w (upd H s.heap.objs.size (.tup [.int (i : Nat), x])) h'' s.heap.objs.size (.tup [.int (i : Nat), x]) :=
      ⟨by show 2 ≤ sizeLine; decide, [.int i tk, u'], .cons ⟨_, rfl⟩ (.cons ru .nil), ⟨_, hT2, rfl, _, rfl⟩⟩
    have I1 : Inv X pins σ (upd H s.heap.objs.size (.tup [.int (i : Nat), x])) { s with heap := h'', toks := tk + 1 } :=
      I.turnedNew (ch := [e, it]) (fun b ob hb q => (sb.2 b (fun z => hb (by simp [z]))).trans (hk b ob (fun z => hb (by simp [z])) (fun z => hb (by simp [z])) q)) hf (Nat.le_refl _) new
    refine ⟨.ref s.heap.objs.size, _, I1, rfl, ⟨_, x, rfl, I.hok.fresh (Nat.le_refl _), rfl, fun ys hy => by rw [I.tuple_inj hy hq]; exact hx⟩, ⟨⟨u', ?_⟩, hst'.1.at fun o q => (sb.2 it (Ne.symm hne)).trans q, hne, hai, hea⟩, fun b hb => ?_⟩
    · have e1 : ((i + 1 : Nat) : Int) = (i : Int) + 1 := by omega
      rw [e1]; exact he'
    · have hb' : b < s.heap.objs.size := by
        have e' : b = e ∨ b = it := by simpa using hb
        rcases e' with z | z
        · rw [z]; exact hel
        · rw [z]; exact hil
      rw [upd_ne (Nat.ne_of_lt hb')]
      exact (hf b hb).1
  done := by
    intro X hP hw hK hc i pins s σ H E I hf st hg
    subst hP hw hK
    obtain ⟨⟨old, he⟩, hit, hne, hai, hea⟩ := st
    obtain ⟨xs, hq, hx⟩ := hg
    obtain ⟨its, rv, p, hz⟩ := I.tuple hq
    obtain ⟨f0, f1, f2, f3, f4, f5⟩ := hf it (by simp)
    have hl := rv.length
    have D := Draws.tuple (prog := X.prog) (w := X.w) (A := X.A.in1) (show X.A.in1.handled = none from I.ok.hd hc) it a hai its.toArray
    have hi : i = its.toArray.size := by simp; omega
    subst hi
    exact wpAny_pyNext_enum_endD D he ⟨hit, show s.heap.IsTuple a its.toArray from p⟩ fun h' eb => ⟨rfl, I.turned (t' := s.toks) (fun b o hb q => eb b o hb q) f0 f1 f3 f4 f5⟩
  self := fun A i s Q E st h => let ⟨⟨_, he⟩, _⟩ := st; wpAny_pyIter_enum he h
def iEnumT (K : PySem.W.Frag) (ta : TA) : TI := fun σ H R => ta σ H fun vs H1 => ∃ a xs, vs = [.ref a] ∧ SqT K H1 a xs ∧ R (IteT K a) H1
theorem pi_enumT {X : Cx} {e : Expr} {ta : TA} {p pos tpos : Pos} {elts : List Expr} {kk : Nat} (hg : Gl X "enumerate") (hm : X.mg "enumerate" = none) (ha : PA X [e] ta) (hs : starEach [e] X.env = [(false, eval e X.env)] := by rfl) :
    PI X (.Tuple elts kk tpos) (.Call (.Name "enumerate" p) [e] [] pos) (iEnumT X.K ta) := by
  refine ⟨fun pins s σ H R I h => ?_⟩
  refine Call_ (ld_blt I hg hm boot_enumerate (PyProof.Rows.callWith_type1 (thn (ha.run pos pins s σ H _ I h) fun us s1 ⟨vs, H1, I1, r1, q1⟩ => ?_) hs rfl))
  obtain ⟨a, xs, ex, hq, q⟩ := q1
  subst ex
  cases r1 with
  | cons r rr =>
    cases rr
    cases r
    obtain ⟨its, rv, p', hz⟩ := I1.tuple hq
    obtain ⟨o, ho, _⟩ := id p'
    have hal : a < s1.heap.objs.size := Heap.lt_size ho
    refine enum_begins1 (begins_tuple a its.toArray) (show s1.heap.IsTuple a its.toArray from p') fun h' he hit hsz hk => wpAny_pyIter_enum he ?_
    have I2 : Inv X pins σ H1 { s1 with heap := h' } := I1.kept (t' := s1.toks) hk
    refine ⟨s1.heap.objs.size + 1, [s1.heap.objs.size + 1, s1.heap.objs.size], _, _, H1, rfl, I2, turn_enumT a (s1.heap.objs.size + 1) s1.heap.objs.size, ⟨⟨.none, he⟩, ⟨_, hit, rfl, rfl⟩, Nat.succ_ne_self _, Nat.ne_of_lt hal, Ne.symm (Nat.ne_of_lt (Nat.lt_succ_of_lt hal))⟩, fun b hb => ?_, q⟩
    have e' : b = s1.heap.objs.size + 1 ∨ b = s1.heap.objs.size := by simpa using hb
    have hle : s1.heap.objs.size ≤ b := by
      rcases e' with z | z
      · rw [z]; exact Nat.le_add_right _ _
      · rw [z]; exact Nat.le_refl _
    exact I1.fpOk hle (I1.hok.fresh hle)
theorem walk_enumT {K : PySem.W.Frag} {c : Cs} {B G : Hp} {a : Addr} {vs : List V} {ds : List D} (h : SqT K G a vs) (r : RepL K c B ds vs) : WalkD K c B G (IteT K a) (ds.zipIdx.map fun p => .tup [.int (p.2 : Nat), p.1]) where
  go := fun i H d s e => by
    rw [List.getElem?_map, List.getElem?_zipIdx] at e
    cases hd : ds[i]? with
    | none => rw [hd] at e; cases e
    | some d0 =>
      rw [hd] at e
      simp at e
      subst e
      obtain ⟨v, hv, hr⟩ := r.get hd
      refine ⟨⟨vs, v, VL.SqT.up s h, hv⟩, fun x H' B1 y sb sh => ?_⟩
      obtain ⟨T, x0, rfl, hT, rfl, f⟩ := y
      have e2 := f vs (VL.SqT.up s h)
      rw [hv] at e2
      cases e2
      exact ⟨_, Up.new sh hT, .tup upd_same (.cons (.int _) (.cons ((hr.up sb).up (Up.new (o := .tup [V.int (i : Nat), v]) sh hT).b) .nil))⟩
  stop := fun i H s e => ⟨vs, VL.SqT.up s h, by
    simp at e
    rw [← r.length]
    omega⟩
def genumT : List D → R (List D) := fun ds => match ds with
  | [.ct xs] => .ok (xs.zipIdx.map fun p => .tup [.int (p.2 : Nat), p.1])
  | [.tup xs] => .ok (xs.zipIdx.map fun p => .tup [.int (p.2 : Nat), p.1])
  | _ => .no
def genumU : List D → R (List D) := fun ds => orR (genum ds) (genumT ds)
section
variable {X : Cx} {W : Ws} {e : Expr} {tA : TA} {fn : En → R (List D)} {p pos tpos : Pos} {elts : List Expr} {kk : Nat}
theorem genumT_er (ds : List D) (C : Addr) : genumT ds ≠ .er C := fun h => by
  unfold genumT at h
  split at h <;> cases h
theorem vi_enumT (hm : X.mg "enumerate" = none) (ha : VA X W [e] tA fn) (hp : PA X [e] tA → PI X (.Tuple elts kk tpos) (.Call (.Name "enumerate" p) [e] [] pos) (iEnumT X.K tA)) : VI X W (.Tuple elts kk tpos) (.Call (.Name "enumerate" p) [e] [] pos) (iEnumT X.K tA) (fun ρ => (fn ρ).bind genumT) :=
  ⟨hp ha.pe, fun Fo B H ρ σ Rr rs q => vi_args (r := fun vs H1 R => ∃ (a : Addr) (xs : List V), vs = [.ref a] ∧ SqT X.K H1 a xs ∧ R (IteT X.K a) H1) ha (fun B H vs ds xs Rr s hr hx k => by
    unfold genumT at hx
    split at hx
    · cases hx
      obtain ⟨v, rfl, hv⟩ := repL_1 hr
      cases hv with
      | ct h1 h2 => exact ⟨_, _, rfl, VL.SqT.up s h1, k _ (walk_enumT h1 h2)⟩
    · cases hx
      obtain ⟨v, rfl, hv⟩ := repL_1 hr
      cases hv with
      | tup h1 h2 => exact ⟨_, _, rfl, SqT.of (s _ _ h1), k _ (walk_enumT (SqT.of h1) h2)⟩
    · cases hx) genumT_er rs q⟩
theorem orR_enum (fn : En → R (List D)) : (fun ρ => orR ((fn ρ).bind genum) ((fn ρ).bind genumT)) = (fun ρ => (fn ρ).bind genumU) := by
  funext ρ
  cases fn ρ <;> rfl
theorem vi_enumU (hm : X.mg "enumerate" = none) (ha : VA X W [e] tA fn) (hp : PA X [e] tA → PI X (.Tuple elts kk tpos) (.Call (.Name "enumerate" p) [e] [] pos) (iEnum X.K tA)) (hp' : PA X [e] tA → PI X (.Tuple elts kk tpos) (.Call (.Name "enumerate" p) [e] [] pos) (iEnumT X.K tA)) :
    VI X W (.Tuple elts kk tpos) (.Call (.Name "enumerate" p) [e] [] pos) (fun σ H R => iEnum X.K tA σ H R ∨ iEnumT X.K tA σ H R) (fun ρ => (fn ρ).bind genumU) := orR_enum fn ▸ vi_or (vi_enum hm ha hp) (vi_enumT hm ha hp')
end
theorem genumU_l (xs : List D) : genumU [.lst xs] = .ok (xs.zipIdx.map fun p => .tup [.int (p.2 : Nat), p.1]) := rfl
theorem genumU_c (xs : List D) : genumU [.ct xs] = .ok (xs.zipIdx.map fun p => .tup [.int (p.2 : Nat), p.1]) := rfl
theorem genumU_t (xs : List D) : genumU [.tup xs] = .ok (xs.zipIdx.map fun p => .tup [.int (p.2 : Nat), p.1]) := rfl
end VL
set_option maxRecDepth 100000
set_option maxHeartbeats 4000000
namespace VL
open PySem PySem.Spec PyProof.Rows L2 StX
/-! ### [*a, ..] -/
def dStar (f : En → R D) (g : En → R (List D)) : En → R (List D) := fun ρ => (f ρ).bind fun d => match items d with
  | some xs => (g ρ).bind fun ys => .ok (xs ++ ys)
  | none => .no
section
variable {X : Cx} {W : Ws} {e : Expr} {es : List Expr} {t : TE} {tr : TA} {f : En → R D} {h1 : En → R (List D)} {pos p : Pos}
theorem va_star (ha : VE X W e t f) (hr : VA X W es tr h1) (hs : starEach (.Starred e p :: es) X.env = (true, eval e X.env) :: starEach es X.env := by rfl) : VA X W (.Starred e p :: es) (tStar X.K t tr) (dStar f h1) := ⟨pa_star ha.pe hr.pe hs, fun Fo B H ρ σ Q rs q => by
  unfold dStar at q
  refine ha.ok Fo B H ρ σ _ rs ?_
  cases h : f ρ with
  | no => rw [h] at q; exact q
  | er C => rw [h] at q; exact q
  | ok d =>
    rw [h, R.bind_ok] at q
    intro v B1 H1 u1 r1
    cases hi : items d with
    | none => rw [hi] at q; exact q.elim
    | some xs =>
      rw [hi] at q
      dsimp only at q
      obtain ⟨a, us, rfl, hq, hr2⟩ := repT_items u1.bh (.inl r1) hi
      refine ⟨a, us, rfl, hq.symm, hr.ok Fo B1 H1 ρ σ _ (rs.up u1) ?_⟩
      cases h2 : h1 ρ with
      | no => rw [h2] at q; exact q
      | er C => rw [h2] at q; exact fun B' H' u => q B' H' (u1.trans u)
      | ok ys =>
        rw [h2, R.bind_ok] at q
        intro ws B2 H2 u2 r2
        exact q (us ++ ws) B2 H2 (u1.trans u2) ((hr2.up u2.b).append r2)⟩
/-! ### data.extend(e) -/
theorem vs_extend (i : Nat) {x : Str} {apos cpos xpos : Pos} (he : VE X W e t f) (hN : X.N[i]? = some x := by rfl) (hv : Vis X.env.scope x := by first | exact Or.inl rfl | exact Or.inr (Or.inl rfl) | exact Or.inr (Or.inr rfl)) (hd : (x == ("__debug__" : Str)) = false := by decide)
    (hcd : (x == ("__classdict__" : Str)) = false := by decide) (hs : swapsWith (.Call (.Attribute (.Name x xpos) "extend" apos) [e] [] cpos) none pos.line X.env = pure false := by rfl)
    (hbase : attributeBase (.Name x xpos) "extend" X.env (eval (.Name x xpos) X.env) = eval (.Name x xpos) X.env := by rfl)
    (hfew : ((backTo cpos (starEach (e :: []) X.env)).all (fun x => !x.1) && (backToKw cpos (keywordEach [] X.env)).all (fun x => x.1.isSome)
      && decide ((e :: []).length + ([] : List Keyword).length + (if ([] : List Keyword).isEmpty then 0 else 1) < 30)) = true := by rfl)
    (hline : (apos.endLine == cpos.line) = true := by rfl) (hst : starEach (e :: []) X.env = (false, eval e X.env) :: starEach [] X.env := by rfl) (hplain : (backTo cpos (starEach [] X.env)).any (·.1) = false := by rfl) :
    VS X W (.Expr (.Call (.Attribute (.Name x xpos) "extend" apos) [e] [] cpos) pos) (tDrop (tBM X.K "list" rExtend (tVar i) (tCons t tNil))) (gOwn i uExt f) :=
  ⟨ps_expr (pe_bm PySem.F.plainAttrs_list PySem.F.slot_list_extend PySem.F.type_list_extend mt_extend (pe_var hN hv hd hcd) (pa_cons he.pe pa_nil hst) hbase hfew hline hst hplain) hs, fun Fo B H ρ σ D r q =>
    gOwn_ok (t := tDrop (tBM X.K "list" rExtend (tVar i) (tCons t tNil))) r q fun ds p vs hρ hσ hH hr q => by
      refine ⟨_, hσ, .inl ⟨rfl, _, SqL.of hH⟩, ?_⟩
      refine gLet_okE he r q fun d w B' H' s r' hw q' => ?_
      obtain ⟨vs2, h2, h3⟩ := own_again r' hρ hσ
      unfold uExt at q'
      cases hw with
      | @lst b zs xs hb hz =>
        dsimp only at q'
        by_cases hl : ds.length + xs.length ≤ sizeLine
        · rw [if_pos hl] at q'
          exact ⟨p, b, vs2, zs, rfl, rfl, h2, r'.bh _ _ hb, by rw [← h3.length, ← hz.length]; exact hl, q' B' _ σ (Same.refl _) (r'.write hρ hσ (h3.append hz))⟩
        · rw [if_neg hl] at q'
          exact q'.elim
      | _ => exact q'.elim⟩
end
theorem items_l (xs : List D) : items (.lst xs) = some xs := rfl
end VL
set_option maxRecDepth 100000
set_option maxHeartbeats 4000000
namespace VL
open PySem PySem.Spec PyProof.Rows L2
/-! ### divmod -/
def gDivmod : List D → Option D := fun ds => match ds with
  | [.int i, .int j] => if 0 < j ∧ j < 1073741824 then some (.tup [.int (i / j), .int (i % j)]) else none
  | _ => none
section
variable {K : PySem.W.Frag} {c : Cs}
theorem gDivmod_ok : CBOk K c (fun xs H Q => ∃ i j, xs = [.int i, .int j] ∧ CDiv i j ∧ ∀ p, H p = none → Q (.ref p) (upd H p (.tup [.int (i / j), .int (i % j)]))) gDivmod := fun B H ds vs Q d s hr e q => by
  unfold gDivmod at e
  split at e
  · rename_i i j
    by_cases hc : 0 < j ∧ j < 1073741824
    · rw [if_pos hc] at e
      cases e
      obtain ⟨v, w, rfl, hv, hw⟩ := repTL_2 hr
      cases repT_int hv
      cases repT_int hw
      refine ⟨i, j, rfl, hc, fun p hp => ?_⟩
      have u := Up.new (o := .tup [V.int (i / j), V.int (i % j)]) s hp
      exact q _ _ _ u (.tup upd_same (.cons (.int _) (.cons (.int _) .nil)))
    · rw [if_neg hc] at e
      cases e
  · cases e
end
/-! ### index -/
section
variable {X : Cx}
def rIndexT (K : PySem.W.Frag) : V → List V → Hp → VK → Prop := fun x xs H Q => ∃ (a : Addr) (ys : List V) (y : V) (j : Nat) (z : V), x = V.ref a ∧ xs = [y] ∧ SqT K H a ys ∧ flatV y = true ∧ ys.all flatV = true ∧ ys[j]? = some z ∧ eqV z y = true ∧
  (∀ (m : Nat) (z' : V), m < j → ys[m]? = some z' → eqV z' y = false) ∧ Q (.int (j : Nat)) H
theorem mt_indexT : MtR X "tuple.index" (rIndexT X.K) := by
  intro pins s σ H x xs v us Q I rx rxs h
  obtain ⟨a, ys, y, j, z, rfl, rfl, hs, fy, fys, hz, hzj, hno, q⟩ := h
  cases rx
  cases rxs with
  | cons ry rt =>
    rename_i uy ut
    cases rt
    obtain ⟨its, rv, pl, hlen⟩ := I.tuple hs
    obtain ⟨⟨cls, dd, dt, sl⟩, ho, hc, n, hd⟩ := pl
    simp only at hc hd
    subst hc hd
    obtain ⟨u, hu, ru⟩ := rv.get hz
    obtain ⟨hjl, hje⟩ := List.getElem?_eq_some_iff.mp hu
    have hvl := rv.length
    have hj : j < its.toArray.size := by simpa using hjl
    refine call_meets PySem.F.slot_tuple_index ⟨_, ho, rfl⟩ PySem.F.entry_tuple_index (PySem.F.args_tuple_index_2 _ _)
      (TI.tuple_indexAt a its.toArray n dd sl uy (eqU y) j hj ?_ ?_) ⟨ho, fun u' hu' => mem_eqAt ry fy rv fys u' (by simpa using hu'), ?_⟩
    · have e1 : its.toArray[j] = u := by simpa using hje
      rw [e1, eqU_of ru (flat_at fys hz)]
      exact hzj
    · intro m hm hmj
      have hml : m < its.length := by simpa using hm
      have hmy : m < ys.length := by omega
      have hy' : ys[m]? = some ys[m] := List.getElem?_eq_getElem hmy
      obtain ⟨u2, hu2, ru2⟩ := rv.get hy'
      obtain ⟨_, hme⟩ := List.getElem?_eq_some_iff.mp hu2
      have e1 : its.toArray[m] = u2 := by simpa using hme
      rw [e1, eqU_of ru2 (flat_at fys hy')]
      exact hno m _ hmj hy'
    · exact ⟨.int (j : Nat), H, I.tok _, ⟨_, rfl⟩, q⟩
end
/-- the first place of d in ds -/
def idxD (ds : List D) (d : D) : Option Nat := match fVs ds, fV d with
  | some vs, some v => if flatV v = true ∧ vs.all flatV = true then vs.findIdx? (fun z => eqV z v) else none
  | _, _ => none
theorem idx_inv {K : PySem.W.Frag} {c : Cs} {B H : Hp} {ds : List D} {d : D} {vs : List V} {v : V} {j : Nat} (hr : RepL K c B ds vs) (hd : RepT K c B H d v) (e : idxD ds d = some j) :
    flatV v = true ∧ vs.all flatV = true ∧ ∃ z, vs[j]? = some z ∧ eqV z v = true ∧ ∀ (m : Nat) (z' : V), m < j → vs[m]? = some z' → eqV z' v = false := by
  unfold idxD at e
  cases h1 : fVs ds with
  | none => rw [h1] at e; cases e
  | some ws =>
    cases h2 : fV d with
    | none => rw [h1, h2] at e; cases e
    | some w =>
      rw [h1, h2] at e
      dsimp only at e
      have e1 := fVs_rep hr h1
      have e2 := fV_rep hd h2
      subst e1 e2
      by_cases hc : flatV v = true ∧ vs.all flatV = true
      · rw [if_pos hc] at e
        obtain ⟨hj, h3, h4⟩ := List.findIdx?_eq_some_iff_getElem.mp e
        refine ⟨hc.1, hc.2, vs[j], List.getElem?_eq_getElem hj, h3, fun m z' hm hz => ?_⟩
        obtain ⟨hml, rfl⟩ := List.getElem?_eq_some_iff.mp hz
        exact Bool.eq_false_iff.mpr (h4 m hm)
      · rw [if_neg hc] at e
        cases e
def dIdxC (ds : List D) (f : En → R D) : En → R D := fun ρ => (f ρ).bind fun d => match idxD ds d with
  | some j => .ok (.int (j : Nat))
  | none => .no
def dIdxL (fo f : En → R D) : En → R D := fun ρ => (fo ρ).bind fun x => match x with
  | .lst ds => dIdxC ds f ρ
  | _ => .no
section
variable {X : Cx} {W : Ws} {o e : Expr} {es : List Expr} {t to : TE} {f fo : En → R D} {tA : TA} {fn : En → R (List D)} {p pos apos cpos xpos : Pos}
theorem ve_divmod (hm : X.mg "divmod" = none) (ha : VAP X W (e :: es) tA fn) (hg : Gl X "divmod" := by rfl) (he : starEach (e :: es) X.env = (false, eval e X.env) :: starEach es X.env := by rfl) (hpl : (backTo pos (starEach es X.env)).any (·.1) = false := by rfl) :
    VE X W (.Call (.Name "divmod" p) (e :: es) [] pos) (tCB (fun xs H Q => ∃ i j, xs = [.int i, .int j] ∧ CDiv i j ∧ ∀ p, H p = none → Q (.ref p) (upd H p (.tup [.int (i / j), .int (i % j)]))) tA) (dCB gDivmod fn) := ve_callB call_divmod gDivmod_ok hm (by decide +kernel) ha hg (by decide) (by decide) he hpl
/-- T.index(e), T a tuple of the top -/
theorem ve_cindex {x : Str} {ds : List D} (c : ∃ a, X.mg x = some (.ref a) ∧ (∃ ob, X.K.lookup a = some ob ∧ ob.cls = .type "tuple" ∧ ob.dict = none) ∧ ∀ B, Rep X.K W.c B (.ct ds) (.ref a)) (he : VE X W e t f) (hg : Gl X x := by rfl) (hdb : (x == ("__debug__" : Str)) = false := by decide)
    (hbase : attributeBase (.Name x xpos) "index" X.env (eval (.Name x xpos) X.env) = eval (.Name x xpos) X.env := by rfl)
    (hfew : ((backTo cpos (starEach (e :: []) X.env)).all (fun x => !x.1) && (backToKw cpos (keywordEach [] X.env)).all (fun x => x.1.isSome)
      && decide ((e :: []).length + ([] : List Keyword).length + (if ([] : List Keyword).isEmpty then 0 else 1) < 30)) = true := by rfl)
    (hline : (apos.endLine == cpos.line) = true := by rfl) (hst : starEach (e :: []) X.env = (false, eval e X.env) :: starEach [] X.env := by rfl) (hplain : (backTo cpos (starEach [] X.env)).any (·.1) = false := by rfl) :
    VE X W (.Call (.Attribute (.Name x xpos) "index" apos) [e] [] cpos) (tBM X.K "tuple" (rIndexT X.K) (tC (.ref c.choose)) (tCons t tNil)) (dIdxC ds f) :=
  ⟨pe_bm PySem.F.plainAttrs_tuple PySem.F.slot_tuple_index PySem.F.type_tuple_index mt_indexT (pe_glob hg c.choose_spec.1 rfl hdb) (pa_cons he.pe pa_nil hst) hbase hfew hline hst hplain, fun Fo B H ρ σ Q rs q => by
    unfold dIdxC at q
    obtain ⟨_, ⟨ob, o1, o2, o3⟩, cr⟩ := c.choose_spec
    refine ⟨.inr (.inl ⟨rfl, ob, o1, o2, o3⟩), he.ok Fo B H ρ σ _ rs ?_⟩
    cases h : f ρ with
    | no => rw [h] at q; exact q
    | er C => rw [h] at q; exact q
    | ok d =>
      rw [h, R.bind_ok] at q
      intro v B' H' u hv
      cases hi : idxD ds d with
      | none => rw [hi] at q; exact q.elim
      | some j =>
        rw [hi] at q
        cases cr B' with
        | ct hs hr =>
          obtain ⟨f1, f2, z, f3, f4, f5⟩ := idx_inv hr (H := H') (.inl hv) hi
          exact ⟨_, _, v, j, z, rfl, rfl, VL.SqT.up u.bh hs, f1, f2, f3, f4, f5, q _ B' H' u (.int _)⟩⟩
theorem ve_lindex (ho : VE X W o to fo) (he : VE X W e t f)
    (hbase : attributeBase o "index" X.env (eval o X.env) = eval o X.env := by rfl)
    (hfew : ((backTo cpos (starEach (e :: []) X.env)).all (fun x => !x.1) && (backToKw cpos (keywordEach [] X.env)).all (fun x => x.1.isSome)
      && decide ((e :: []).length + ([] : List Keyword).length + (if ([] : List Keyword).isEmpty then 0 else 1) < 30)) = true := by rfl)
    (hline : (apos.endLine == cpos.line) = true := by rfl) (hst : starEach (e :: []) X.env = (false, eval e X.env) :: starEach [] X.env := by rfl) (hplain : (backTo cpos (starEach [] X.env)).any (·.1) = false := by rfl) :
    VE X W (.Call (.Attribute o "index" apos) [e] [] cpos) (tBM X.K "list" (rIndex X.K) to (tCons t tNil)) (dIdxL fo f) :=
  ⟨pe_bm PySem.F.plainAttrs_list PySem.F.slot_list_index PySem.F.type_list_index mt_index ho.pe (pa_cons he.pe pa_nil hst) hbase hfew hline hst hplain, fun Fo B H ρ σ Q rs q => by
    unfold dIdxL at q
    refine ho.ok Fo B H ρ σ _ rs ?_
    cases h0 : fo ρ with
    | no => rw [h0] at q; exact q
    | er C => rw [h0] at q; exact q
    | ok x =>
      rw [h0, R.bind_ok] at q
      intro v0 B0 H0 u0 hx
      cases hx with
      | @lst a vs ds hb hr =>
        dsimp only at q
        unfold dIdxC at q
        refine ⟨.inl ⟨rfl, _, SqL.of (u0.bh _ _ hb)⟩, he.ok Fo B0 H0 ρ σ _ (rs.up u0) ?_⟩
        cases h : f ρ with
        | no => rw [h] at q; exact q
        | er C => rw [h] at q; exact fun B' H' u => q B' H' (u0.trans u)
        | ok d =>
          rw [h, R.bind_ok] at q
          intro v B' H' u hv
          cases hi : idxD ds d with
          | none => rw [hi] at q; exact q.elim
          | some j =>
            rw [hi] at q
            obtain ⟨f1, f2, z, f3, f4, f5⟩ := idx_inv (hr.up u.b) (H := H') (.inl hv) hi
            exact ⟨a, vs, v, j, z, rfl, rfl, SqL.of (u.h _ _ (u0.bh _ _ hb)), f1, f2, f3, f4, f5, q _ B' H' (u0.trans u) (.int _)⟩
      | _ => exact q.elim⟩
end
theorem conk_at {K : PySem.W.Frag} {c : Cs} {mg : Str → Option Value} {x : Str} {k : D} (e : ∃ a, mg x = some (.ref a) ∧ (∃ ob, K.lookup a = some ob ∧ ob.cls = .type "tuple" ∧ ob.dict = none) ∧ ∀ B, Rep K c B k (.ref a)) (p d : Addr) : ∃ a, mg x = some (.ref a) ∧ (∃ ob, K.lookup a = some ob ∧ ob.cls = .type "tuple" ∧ ob.dict = none) ∧ ∀ B, Rep K (c.at p d) B k (.ref a) :=
  let ⟨a, h1, h3, h2⟩ := e; ⟨a, h1, h3, fun B => rep_at.mpr (h2 B)⟩
/-! ### a method of the own instance, called in __init__: it keeps nothing -/
def dMethB (n : Nat) (m : Str) (g : List D → R D) (fa : En → R (List D)) : En → R D := fun ρ => match ρ[(0 : Nat)]? with
  | some (.b C fs) => if C = n ∧ fs.lookup m = none then (fa ρ).bind fun xs => rScal (g (.obj C fs :: xs)) else .no
  | _ => .no
section
variable {X : Cx} {W : Ws} {es : List Expr} {tA : TA} {h1 : En → R (List D)} {pos apos xpos : Pos} {n k ar : Nat} {m s : Str} {pl : Sem Bool}
theorem tMethB_ok {g : List D → R D} (ha : VA X W es tA h1) (hl : ∀ ρ ds, h1 ρ = .ok ds → ds.length + 1 = ar) {Fo B H ρ σ Q} (rs : RS X.K W.c Fo B H ρ σ) (q : EPost X.K W σ B H (dMethB n m g h1 ρ) Q) : tMethS (W.c.cl n) m (spV X.K W.c ar g) (WE W.W) (tVar 0) tA σ H Q := by
  unfold dMethB at q
  cases hi : ρ[(0 : Nat)]? with
  | none => rw [hi] at q; exact q.elim
  | some sl =>
    rw [hi] at q
    cases sl with
    | b C fs =>
      dsimp only at q
      by_cases hm : C = n ∧ fs.lookup m = none
      · rw [if_pos hm] at q
        obtain ⟨rfl, hm2⟩ := hm
        obtain ⟨p, dx, gs, a1, a2, a3, a4, a5, a6, a7⟩ := rs.objs 0 C fs hi
        refine ⟨_, a1, p, dx, gs, rfl, a2, a3.lookNone hm2, ha.ok Fo B H ρ σ _ rs ?_⟩
        cases h : h1 ρ with
        | no => rw [h] at q; exact q
        | er C' => rw [h] at q; exact q
        | ok xs =>
          rw [h, R.bind_ok] at q
          intro vs B1 H1 u1 r
          have hb : B1 p = none := u1.out p (by rw [a2]; exact fun z => nomatch z) a4
          have hp : H1 p = some (.ins (W.c.cl C) dx gs) := u1.h _ _ a2
          have sb : Same B1 (upd B1 p (.ins (W.c.cl C) dx gs)) := fun a o e => by rw [upd_ne (ne_of_none e hb)]; exact e
          have sh : Same (upd B1 p (.ins (W.c.cl C) dx gs)) H1 := fun a o e => by
            by_cases z : a = p
            · subst z; rw [upd_same] at e; rw [hp]; exact e
            · rw [upd_ne z] at e; exact u1.bh a o e
          refine ⟨upd B1 p (.ins (W.c.cl C) dx gs), .obj C fs :: xs, sh, .cons (.obj upd_same ((a3.up u1.b).up sb)) (r.up sb), by rw [List.length_cons]; exact hl ρ xs h, ?_⟩
          unfold rScal at q
          cases h2 : g (.obj C fs :: xs) with
          | no => rw [h2] at q; exact q
          | er C' => rw [h2] at q; exact fun B2 H2 u2 => q B1 H2 (u1.trans (up_lent sb u2))
          | ok d =>
            rw [h2] at q
            dsimp only at q
            by_cases hs : scal d = true
            · rw [if_pos hs] at q
              exact fun v B2 H2 u2 hv => q v B1 H2 (u1.trans (up_lent sb u2)) (Rep.scal hv hs)
            · rw [if_neg hs] at q
              exact q.elim
      · rw [if_neg hm] at q
        exact q.elim
    | _ => exact q.elim
theorem ve_methB0 {g : List D → R D} (M : MethAt X.prog X.w X.K W.c X.mg X.base n m k 1 (spV X.K W.c 1 g)) (hr : Room k X.A) (tk : Takes X W.W)
    (hN : X.N[(0 : Nat)]? = some s := by rfl) (hv : Vis X.env.scope s := by first | exact Or.inl rfl | exact Or.inr (Or.inl rfl) | exact Or.inr (Or.inr rfl)) (hd : (s == ("__debug__" : Str)) = false := by decide) (hcd : (s == ("__classdict__" : Str)) = false := by decide)
    (ht : eval (.Call (.Attribute (.Name s xpos) m apos) [] [] pos) X.env = (do
      let ov ← eval (.Name s xpos) X.env
      standAt apos.atName
      let (f, first) ← holding [ov] (getMethod ov m pl)
      callWith pos f first (backTo pos (starEach [] X.env)) (backToKw pos (keywordEach [] X.env))) := by rfl) :
    VE X W (.Call (.Attribute (.Name s xpos) m apos) [] [] pos) (tMethS (W.c.cl n) m (spV X.K W.c 1 g) (WE W.W) (tVar 0) tNil) (dMethB n m g dNil) := ⟨by
      obtain ⟨fa, fd, ps, F, hm, hb, _⟩ := M.ex
      exact pe_methS0 (pe_var hN hv hd hcd) M.cls hm F hr hb (fun σ => passAt tk σ) ht, fun _ _ _ _ _ _ rs q => tMethB_ok va_nil (fun ρ ds h => congrArg (· + 1) (len_nil ρ ds h)) rs q⟩
end
end VL
set_option maxRecDepth 100000
set_option maxHeartbeats 4000000
namespace VL
open PySem PySem.Spec PyProof.Rows L2
/-! ### the text -/
def topS (i : Nat) : Stmt := PySem.Challenge.pw_sealgrove_k20_kinds_of_trees.main.body.getD i (.Pass ⟨0, 0, 0, 0⟩)
/-- the fields of the own classes -/
def tabF : List (Nat × Str) := [(3, "core"), (3, "size"), (3, "name"), (4, "suite"), (4, "width"), (4, "top"), (4, "u"), (4, "v"), (4, "ls"), (4, "p"), (4, "code"), (5, "one_time"), (5, "suite"), (5, "height"), (5, "places"), (5, "code")]
abbrev okF : Nat → Str → Bool := inT tabF
/-- which error is of which class: the raised ones against the asked ones -/
def isub (n y : Nat) : Option Bool := match n, y with
  | 2, 2 => some true
  | 2, 1 => some false
  | 2, 0 => some true
  | 1, 2 => some false
  | 1, 1 => some true
  | 1, 0 => some true
  | _, _ => none
def ki_CONSTANTS : List Int := [1116352408, 1899447441, 3049323471, 3921009573, 961987163, 1508970993, 2453635748, 2870763221, 3624381080, 310598401, 607225278, 1426881987, 1925078388, 2162078206, 2614888103, 3248222580, 3835390401, 4022224774, 264347078, 604807628, 770255983, 1249150122, 1555081692, 1996064986, 2554220882, 2821834349, 2952996808, 3210313671, 3336571891, 3584528711, 113926993, 338241895, 666307205, 773529912, 1294757372, 1396182291, 1695183700, 1986661051, 2177026350, 2456956037, 2730485921, 2820302411, 3259730800, 3345764771, 3516065817, 3600352804, 4094571909, 275423344, 430227734, 506948616, 659060556, 883997877, 958139571, 1322822218, 1537002063, 1747873779, 1955562222, 2024104815, 2227730452, 2361852424, 2428436474, 2756734187, 3204031479, 3329325298]
def kl_CONSTANTS : List D := iL ki_CONSTANTS
def k_CONSTANTS : D := .ct kl_CONSTANTS
def ki_STARTS : List Int := [1779033703, 3144134277, 1013904242, 2773480762, 1359893119, 2600822924, 528734635, 1541459225]
def kl_STARTS : List D := iL ki_STARTS
def k_STARTS : D := .ct kl_STARTS
def kl_WORDS : List D := [.str "sha", .str "small"]
def k_WORDS : D := .ct kl_WORDS
def ki_WIDTHS : List Int := [1, 2, 4, 8]
def kl_WIDTHS : List D := iL ki_WIDTHS
def k_WIDTHS : D := .ct kl_WIDTHS
def ki_PUBLISHED : List Int := [5, 10, 15, 20, 25]
def kl_PUBLISHED : List D := iL ki_PUBLISHED
def k_PUBLISHED : D := .ct kl_PUBLISHED
/-! ### big -/
abbrev s_big : Stmt := topS 6
def g_big_e1 : En → R D := (dBin gAnd (dBin gShr (dPeek 0) (dBin gMul (dC (.int 8)) (dPeek 2))) (dC (.int 255)))
def g_big : En → Out := (gSeq (gIf (dOr (dBl (dBin gLt (dPeek 0) (dC (.int 0)))) (dBl (dBin gGt (dBin gShr (dPeek 0) (dBin gMul (dC (.int 8)) (dPeek 1))) (dC (.int 0)))))
  (gErr 1)
  gNext)
  (gRetN (dLc [2] (dRng (dCons (dBin gSub (dPeek 1) (dC (.int 1))) (dCons (dUn gNeg (dC (.int 1))) (dCons (dUn gNeg (dC (.int 1))) dNil)))) (fName 2) dYes g_big_e1)))
def f_big : List D → R (List D) := fnN 3 g_big
/-! ### u16 -/
abbrev s_u16 : Stmt := topS 7
def g_u16 : En → Out := (gRetN (dCall (f_big) (dCons (dVar 0) (dCons (dC (.int 2)) dNil))))
def f_u16 : List D → R (List D) := fnN 1 g_u16
/-! ### u32 -/
abbrev s_u32 : Stmt := topS 8
def g_u32 : En → Out := (gRetN (dCall (f_big) (dCons (dVar 0) (dCons (dC (.int 4)) dNil))))
def f_u32 : List D → R (List D) := fnN 1 g_u32
/-! ### schedule -/
abbrev s_schedule : Stmt := topS 13
def g_schedule_b1 : En → Out := (gOwn 1 uApp (dBin gOr (dBin gOr (dBin gOr (dBin gShl (dBin gIx (dPeek 0) (dPeek 2)) (dC (.int 24))) (dBin gShl (dBin gIx (dPeek 0) (dBin gAdd (dPeek 2) (dC (.int 1)))) (dC (.int 16)))) (dBin gShl (dBin gIx (dPeek 0) (dBin gAdd (dPeek 2) (dC (.int 2)))) (dC (.int 8)))) (dBin gIx (dPeek 0) (dBin gAdd (dPeek 2) (dC (.int 3))))))
def g_schedule_b2 : En → Out := (gSeq (gSet 3 (dBin gIx (dPeek 1) (dBin gSub (dPeek 2) (dC (.int 15)))))
  (gSeq (gSet 4 (dBin gIx (dPeek 1) (dBin gSub (dPeek 2) (dC (.int 2)))))
  (gSeq (gSet 5 (dBin gXor (dBin gXor (dBin gOr (dBin gShr (dPeek 3) (dC (.int 7))) (dBin gShl (dPeek 3) (dC (.int 25)))) (dBin gOr (dBin gShr (dPeek 3) (dC (.int 18))) (dBin gShl (dPeek 3) (dC (.int 14))))) (dBin gShr (dPeek 3) (dC (.int 3)))))
  (gSeq (gSet 6 (dBin gXor (dBin gXor (dBin gOr (dBin gShr (dPeek 4) (dC (.int 17))) (dBin gShl (dPeek 4) (dC (.int 15)))) (dBin gOr (dBin gShr (dPeek 4) (dC (.int 19))) (dBin gShl (dPeek 4) (dC (.int 13))))) (dBin gShr (dPeek 4) (dC (.int 10)))))
  (gOwn 1 uApp (dBin gAnd (dBin gAdd (dBin gAdd (dBin gAdd (dBin gAnd (dPeek 6) (dC (.int 4294967295))) (dBin gIx (dPeek 1) (dBin gSub (dPeek 2) (dC (.int 7))))) (dBin gAnd (dPeek 5) (dC (.int 4294967295)))) (dBin gIx (dPeek 1) (dBin gSub (dPeek 2) (dC (.int 16))))) (dC (.int 4294967295))))))))
def g_schedule : En → Out := (gSeq (gSetN 1 (dLst dNil))
  (gSeq (gFor (dRng (dCons (dC (.int 0)) (dCons (dC (.int 64)) (dCons (dC (.int 4)) dNil)))) (fName 2) g_schedule_b1)
  (gSeq (gFor (dRng (dCons (dC (.int 16)) (dCons (dC (.int 64)) dNil))) (fName 2) g_schedule_b2)
  (gRetO 1))))
def f_schedule : List D → R (List D) := fnN 7 g_schedule
/-! ### compress -/
abbrev s_compress : Stmt := topS 14
def g_compress_b1 : En → Out := (gSeq (gSet 12 (dBin gXor (dBin gXor (dBin gOr (dBin gShr (dPeek 6) (dC (.int 6))) (dBin gShl (dPeek 6) (dC (.int 26)))) (dBin gOr (dBin gShr (dPeek 6) (dC (.int 11))) (dBin gShl (dPeek 6) (dC (.int 21))))) (dBin gOr (dBin gShr (dPeek 6) (dC (.int 25))) (dBin gShl (dPeek 6) (dC (.int 7))))))
  (gSeq (gSet 13 (dBin gAdd (dBin gAdd (dBin gAdd (dBin gAdd (dPeek 9) (dBin gAnd (dPeek 12) (dC (.int 4294967295)))) (dBin gXor (dBin gAnd (dPeek 6) (dPeek 7)) (dBin gAnd (dUn gInv (dPeek 6)) (dPeek 8)))) (dPeek 10)) (dPeek 11)))
  (gSeq (gSet 14 (dBin gXor (dBin gXor (dBin gOr (dBin gShr (dPeek 2) (dC (.int 2))) (dBin gShl (dPeek 2) (dC (.int 30)))) (dBin gOr (dBin gShr (dPeek 2) (dC (.int 13))) (dBin gShl (dPeek 2) (dC (.int 19))))) (dBin gOr (dBin gShr (dPeek 2) (dC (.int 22))) (dBin gShl (dPeek 2) (dC (.int 10))))))
  (gSeq (gSet 15 (dBin gAdd (dBin gAnd (dPeek 14) (dC (.int 4294967295))) (dBin gXor (dBin gXor (dBin gAnd (dPeek 2) (dPeek 3)) (dBin gAnd (dPeek 2) (dPeek 4))) (dBin gAnd (dPeek 3) (dPeek 4)))))
  (gSeq (gSet 9 (dVar 8))
  (gSeq (gSet 8 (dVar 7))
  (gSeq (gSet 7 (dVar 6))
  (gSeq (gSet 6 (dBin gAnd (dBin gAdd (dPeek 5) (dPeek 13)) (dC (.int 4294967295))))
  (gSeq (gSet 5 (dVar 4))
  (gSeq (gSet 4 (dVar 3))
  (gSeq (gSet 3 (dVar 2))
  (gSet 2 (dBin gAnd (dBin gAdd (dPeek 13) (dPeek 15)) (dC (.int 4294967295)))))))))))))))
def g_compress_e2 : En → R D := (dBin gAnd (dBin gAdd (dPeek 16) (dPeek 17)) (dC (.int 4294967295)))
def g_compress : En → Out := (gSeq (gUnp (dVar 0) (fSeq 8 (fCons (fName 2) (fCons (fName 3) (fCons (fName 4) (fCons (fName 5) (fCons (fName 6) (fCons (fName 7) (fCons (fName 8) (fCons (fName 9) fNil))))))))))
  (gSeq (gFor (fun ρ => ((dCons (dC k_CONSTANTS) (dCons (dNew (dCall (f_schedule) (dCons (dVar 1) dNil))) dNil)) ρ).bind gzipU) (fSeq 2 (fCons (fName 10) (fCons (fName 11) fNil))) g_compress_b1)
  (gRetN (dLc [16, 17] (fun ρ => ((dCons (dPeek 0) (dCons (dNew (dLst (dCons (dVar 2) (dCons (dVar 3) (dCons (dVar 4) (dCons (dVar 5) (dCons (dVar 6) (dCons (dVar 7) (dCons (dVar 8) (dCons (dVar 9) dNil)))))))))) dNil)) ρ).bind gzip) (fSeq 2 (fCons (fName 16) (fCons (fName 17) fNil))) dYes g_compress_e2))))
def f_compress : List D → R (List D) := fnN 18 g_compress
/-! ### sha256 -/
abbrev s_sha256 : Stmt := topS 15
def g_sha256_b1 : En → Out := (gSet 3 (dNew (dCall (f_compress) (dCons (dVar 3) (dCons (dNew (dSl (dPeek 2) (oSome (dVar 4)) (oSome (dBin gAdd (dPeek 4) (dC (.int 64)))))) dNil)))))
def g_sha256_b2 : En → Out := (gSetN 5 (dBinN gCat (dPeek 5) (dNew (dCall (f_u32) (dCons (dVar 6) dNil)))))
def g_sha256 : En → Out := (gSeq (gSet 1 (dBin gMod (dBin gSub (dC (.int 55)) (dCB gLen (dCons (dPeek 0) dNil))) (dC (.int 64))))
  (gSeq (gSet 2 (dNew (dBinN gCat (dNew (dBinN gCat (dNew (dBinN gCat (dPeek 0) (dNew (dLst (dCons (dC (.int 128)) dNil))))) (dNew (dBinN gRepN (dNew (dLst (dCons (dC (.int 0)) dNil))) (dPeek 1))))) (dNew (dCall (f_big) (dCons (dBin gMul (dC (.int 8)) (dCB gLen (dCons (dPeek 0) dNil))) (dCons (dC (.int 8)) dNil)))))))
  (gSeq (gSet 3 (dNew (dCBN gList (dCons (dC k_STARTS) dNil))))
  (gSeq (gFor (dRng (dCons (dC (.int 0)) (dCons (dCB gLen (dCons (dPeek 2) dNil)) (dCons (dC (.int 64)) dNil)))) (fName 4) g_sha256_b1)
  (gSeq (gSetN 5 (dLst dNil))
  (gSeq (gFor (dISeq (dVar 3)) (fName 6) g_sha256_b2)
  (gRetO 5)))))))
def f_sha256 : List D → R (List D) := fnN 7 g_sha256
/-! ### small_core -/
abbrev s_small_core : Stmt := topS 18
def g_small_core_b1 : En → Out := (gSet 1 (dBin gMod (dBin gAdd (dBin gAdd (dBin gMul (dPeek 1) (dC (.int 257))) (dPeek 2)) (dC (.int 1))) (dC (.int 65521))))
def g_small_core_b2 : En → Out := (gSeq (gSet 1 (dBin gMod (dBin gAdd (dBin gMul (dPeek 1) (dC (.int 16807))) (dC (.int 11))) (dC (.int 65521))))
  (gOwn 3 uApp (dBin gMod (dPeek 1) (dC (.int 256)))))
def g_small_core : En → Out := (gSeq (gSet 1 (dC (.int 1)))
  (gSeq (gFor (dISeq (dVar 0)) (fName 2) g_small_core_b1)
  (gSeq (gSet 1 (dBin gMod (dBin gAdd (dBin gAdd (dBin gMul (dPeek 1) (dC (.int 31))) (dCB gLen (dCons (dPeek 0) dNil))) (dC (.int 7))) (dC (.int 65521))))
  (gSeq (gSetN 3 (dLst dNil))
  (gSeq (gFor (dRng (dCons (dC (.int 32)) dNil)) (fName 4) g_small_core_b2)
  (gRetO 3))))))
def f_small_core : List D → R (List D) := fnN 5 g_small_core
/-! ### is_integer -/
abbrev s_is_integer : Stmt := topS 22
def g_is_integer : En → Out := (gRet (dAndV (dBl (dCB gIsi (dCons (dPeek 0) (dCons (dC (.ty "int")) dNil)))) (dOfB (dNot (dBl (dCB gIsi (dCons (dPeek 0) (dCons (dC (.ty "bool")) dNil))))))))
def f_is_integer : List D → R D := fnV 1 g_is_integer
/-! ### Suite_init -/
abbrev s_Suite_init : Stmt := inClass (topS 23) 0
def g_Suite_init : En → Out := (gSeq (gIf (dOr (dNot (dTru (dCall (f_is_integer) (dCons (dVar 1) dNil)))) (dBl (dBin gNin (dPeek 1) (dTup (dCons (dC (.int 0)) (dCons (dC (.int 1)) dNil))))))
  (gErr 1)
  gNext)
  (gSeq (gIf (dOr (dNot (dTru (dCall (f_is_integer) (dCons (dVar 2) dNil)))) (dNot (dBl (dChain gLe gLe (dC (.int 1)) (dPeek 2) (dC (.int 32))))))
  (gErr 1)
  gNext)
  (gSeq (gPut okF 0 "core" (dVar 1))
  (gSeq (gPut okF 0 "size" (dVar 2))
  (gPut okF 0 "name" (dJs (jCons (dUn gFmt (dBin gIx (dC k_WORDS) (dPeek 1))) (jCons (dC (.str "-")) (jCons (dUn gFmt (dPeek 2)) jNil)))))))))
def f_Suite_init : List D → R (List (Str × D)) := fnB 3 3 g_Suite_init
/-! ### Suite_whole -/
abbrev s_Suite_whole : Stmt := inClass (topS 23) 1
def g_Suite_whole : En → Out := (gSeq (gIf (dBl (dBin gEq (dFld okF "core" (dVar 0)) (dC (.int 0))))
  (gRetN (dCall (f_sha256) (dCons (dVar 1) dNil)))
  gNext)
  (gRetN (dCall (f_small_core) (dCons (dVar 1) dNil))))
def f_Suite_whole : List D → R (List D) := fnN 2 g_Suite_whole
/-! ### Suite_digest -/
abbrev s_Suite_digest : Stmt := inClass (topS 23) 2
def g_Suite_digest : En → Out := (gRetN (dSl (dNew (dMeth 3 "whole" (f_Suite_whole) (dVar 0) (dCons (dVar 1) dNil))) oNone (oSome (dFld okF "size" (dVar 0)))))
def f_Suite_digest : List D → R (List D) := fnN 2 g_Suite_digest
/-! ### coefficient -/
abbrev s_coefficient : Stmt := topS 27
def g_coefficient : En → Out := (gSeq (gIf (dBl (dBin gNin (dPeek 2) (dC k_WIDTHS)))
  (gErr 1)
  gNext)
  (gSeq (gIf (dOr (dBl (dBin gLt (dPeek 1) (dC (.int 0)))) (dBl (dBin gGt (dBin gMul (dBin gAdd (dPeek 1) (dC (.int 1))) (dPeek 2)) (dBin gMul (dC (.int 8)) (dCB gLen (dCons (dPeek 0) dNil))))))
  (gErr 1)
  gNext)
  (gSeq (gSet 3 (dBin gMul (dPeek 1) (dPeek 2)))
  (gRet (dBin gAnd (dBin gShr (dBin gIx (dPeek 0) (dBin gFDiv (dPeek 3) (dC (.int 8)))) (dBin gSub (dBin gSub (dC (.int 8)) (dPeek 2)) (dBin gMod (dPeek 3) (dC (.int 8))))) (dBin gSub (dBin gShl (dC (.int 1)) (dPeek 2)) (dC (.int 1))))))))
def f_coefficient : List D → R D := fnV 4 g_coefficient
/-! ### checks_of -/
abbrev s_checks_of : Stmt := topS 28
def g_checks_of_b1 : En → Out := (gSet 2 (dBin gAdd (dPeek 2) (dC (.int 1))))
def g_checks_of : En → Out := (gSeq (gSet 2 (dC (.int 0)))
  (gSeq (gWhile fuelN (dBl (dBin gLe (dBin gShl (dC (.int 1)) (dBin gMul (dPeek 2) (dPeek 1))) (dPeek 0))) g_checks_of_b1)
  (gRet (dVar 2))))
def f_checks_of : List D → R D := fnV 3 g_checks_of
/-! ### OneTime__code -/
abbrev s_OneTime__code : Stmt := inClass (topS 29) 1
def g_OneTime__code : En → Out := (gSeq (gIf (dAnd (dBl (dBin gEq (dFld okF "core" (dFld okF "suite" (dVar 0))) (dC (.int 0)))) (dBl (dBin gEq (dFld okF "size" (dFld okF "suite" (dVar 0))) (dC (.int 32)))))
  (gRet (dBin gAdd (dIdxC kl_WIDTHS (dFld okF "width" (dVar 0))) (dC (.int 1))))
  gNext)
  (gRet (dBin gAdd (dBin gAdd (dBin gAdd (dC (.int 3758096384)) (dBin gMul (dC (.int 65536)) (dFld okF "core" (dFld okF "suite" (dVar 0))))) (dBin gMul (dC (.int 256)) (dFld okF "size" (dFld okF "suite" (dVar 0))))) (dFld okF "width" (dVar 0)))))
def f_OneTime__code : List D → R D := fnV 1 g_OneTime__code
/-! ### TreeKind__code -/
abbrev s_TreeKind__code : Stmt := inClass (topS 34) 1
def g_TreeKind__code : En → Out := (gSeq (gSet 1 (dFld okF "suite" (dVar 0)))
  (gSeq (gIf (dAnd (dBl (dBin gEq (dFld okF "core" (dVar 1)) (dC (.int 0)))) (dAnd (dBl (dBin gEq (dFld okF "size" (dVar 1)) (dC (.int 32)))) (dBl (dBin gIn (dFld okF "height" (dVar 0)) (dC k_PUBLISHED)))))
  (gRet (dBin gAdd (dC (.int 5)) (dIdxC kl_PUBLISHED (dFld okF "height" (dVar 0)))))
  gNext)
  (gRet (dBin gAdd (dBin gAdd (dBin gAdd (dC (.int 3892314112)) (dBin gMul (dC (.int 65536)) (dFld okF "core" (dVar 1)))) (dBin gMul (dC (.int 256)) (dFld okF "size" (dVar 1)))) (dFld okF "height" (dVar 0))))))
def f_TreeKind__code : List D → R D := fnV 2 g_TreeKind__code
/-! ### _law_cell -/
abbrev s__law_cell : Stmt := topS 37
def g__law_cell : En → Out := (gSeq (gIf (dBl (dBin gLt (dPeek 1) (dCB gLen (dCons (dPeek 0) dNil))))
  (gRet (dCB gInt (dCons (dBin gIx (dPeek 0) (dPeek 1)) dNil)))
  gNext)
  (gRet (dC (.int 0))))
def f__law_cell : List D → R D := fnV 2 g__law_cell
/-! ### _law_integer -/
abbrev s__law_integer : Stmt := topS 38
def g__law_integer : En → Out := (gRet (dAndV (dBl (dCB gIsi (dCons (dPeek 0) (dCons (dC (.ty "int")) dNil)))) (dOfB (dNot (dBl (dCB gIsi (dCons (dPeek 0) (dCons (dC (.ty "bool")) dNil))))))))
def f__law_integer : List D → R D := fnV 1 g__law_integer
/-! ### _law_code -/
abbrev s__law_code : Stmt := topS 39
def g__law_code : En → Out := (gSeq (gIf (dAnd (dBl (dBin gEq (dPeek 0) (dC (.int 0)))) (dAnd (dBl (dBin gEq (dPeek 1) (dC (.int 32)))) (dBl (dBin gIn (dPeek 2) (dTup (dCons (dC (.int 5)) (dCons (dC (.int 10)) (dCons (dC (.int 15)) (dCons (dC (.int 20)) (dCons (dC (.int 25)) dNil))))))))))
  (gRet (dBin gAdd (dC (.int 4)) (dBin gFDiv (dPeek 2) (dC (.int 5)))))
  gNext)
  (gRet (dBin gAdd (dBin gAdd (dBin gAdd (dC (.int 3892314112)) (dBin gMul (dC (.int 65536)) (dPeek 0))) (dBin gMul (dC (.int 256)) (dPeek 1))) (dPeek 2))))
def f__law_code : List D → R D := fnV 3 g__law_code
/-! ### _law_once -/
abbrev s__law_once : Stmt := topS 40
def g__law_once : En → Out := (gSeq (gIf (dAnd (dBl (dBin gEq (dPeek 0) (dC (.int 0)))) (dBl (dBin gEq (dPeek 1) (dC (.int 32)))))
  (gRet (dBin gIx (dNew (dLst (dCons (dC (.int 1)) (dCons (dC (.int 2)) (dCons (dC (.int 3)) (dCons (dC (.int 4)) dNil)))))) (dIdxL (dNew (dLst (dCons (dC (.int 1)) (dCons (dC (.int 2)) (dCons (dC (.int 4)) (dCons (dC (.int 8)) dNil)))))) (dVar 2))))
  gNext)
  (gRet (dBin gAdd (dBin gAdd (dBin gAdd (dC (.int 3758096384)) (dBin gMul (dC (.int 65536)) (dPeek 0))) (dBin gMul (dC (.int 256)) (dPeek 1))) (dPeek 2))))
def f__law_once : List D → R D := fnV 3 g__law_once
/-! ### _law_fields -/
abbrev s__law_fields : Stmt := topS 41
def g__law_fields : En → Out := (gSeq (gSet 5 (dNew (dLst (dCons (dFld okF "height" (dVar 0)) (dCons (dFld okF "places" (dVar 0)) (dCons (dFld okF "code" (dVar 0)) (dCons (dFld okF "width" (dFld okF "one_time" (dVar 0))) dNil)))))))
  (gSeq (gIf (dBl (dBin gNe (dPeek 5) (dNew (dLst (dCons (dVar 4) (dCons (dBin gShl (dC (.int 1)) (dPeek 4)) (dCons (dCall (f__law_code) (dCons (dVar 1) (dCons (dVar 2) (dCons (dVar 4) dNil)))) (dCons (dVar 3) dNil))))))))
  (gRet (dC (.bl false)))
  gNext)
  (gSeq (gIf (dBl (dBin gGt (dCB gLen (dCons (dNew (dLc [6] (dISeq (dPeek 5)) (fName 6) (dNot (dTru (dCall (f__law_integer) (dCons (dVar 6) dNil)))) (dVar 6))) dNil)) (dC (.int 0))))
  (gRet (dC (.bl false)))
  gNext)
  (gRet (dBin gEq (dNew (dLst (dCons (dFld okF "core" (dFld okF "suite" (dVar 0))) (dCons (dFld okF "size" (dFld okF "suite" (dVar 0))) (dCons (dFld okF "size" (dFld okF "suite" (dFld okF "one_time" (dVar 0)))) dNil))))) (dNew (dLst (dCons (dVar 1) (dCons (dVar 2) (dCons (dVar 2) dNil))))))))))
def f__law_fields : List D → R D := fnV 7 g__law_fields
/-! ### OneTime_init -/
abbrev s_OneTime_init : Stmt := inClass (topS 29) 0
def g_OneTime_init : En → Out := (gSeq (gIf (dBl (dBin gNin (dPeek 2) (dC k_WIDTHS)))
  (gErr 1)
  gNext)
  (gSeq (gPut okF 0 "suite" (dVar 1))
  (gSeq (gPut okF 0 "width" (dVar 2))
  (gSeq (gPut okF 0 "top" (dBin gSub (dBin gShl (dC (.int 1)) (dPeek 2)) (dC (.int 1))))
  (gSeq (gPut okF 0 "u" (dBin gFDiv (dBin gMul (dC (.int 8)) (dFld okF "size" (dVar 1))) (dPeek 2)))
  (gSeq (gPut okF 0 "v" (dCall (f_checks_of) (dCons (dBin gMul (dFldB okF 0 "u") (dFldB okF 0 "top")) (dCons (dVar 2) dNil))))
  (gSeq (gPut okF 0 "ls" (dBin gSub (dC (.int 16)) (dBin gMul (dFldB okF 0 "v") (dPeek 2))))
  (gSeq (gPut okF 0 "p" (dBin gAdd (dFldB okF 0 "u") (dFldB okF 0 "v")))
  (gPut okF 0 "code" (dMethB 4 "_code" (f_OneTime__code) dNil))))))))))
def f_OneTime_init : List D → R (List (Str × D)) := fnB 3 4 g_OneTime_init
/-! ### one_time_of -/
abbrev s_one_time_of : Stmt := topS 30
def g_one_time_of : En → Out := (gSeq (gIf (dBl (dChain gLe gLe (dC (.int 1)) (dPeek 0) (dC (.int 4))))
  (gRet (dMake 4 (f_OneTime_init) (dCons (dMake 3 (f_Suite_init) (dCons (dC (.int 0)) (dCons (dC (.int 32)) dNil))) (dCons (dBin gIx (dC k_WIDTHS) (dBin gSub (dPeek 0) (dC (.int 1)))) dNil))))
  gNext)
  (gSeq (gUnp (dCB gDivmod (dCons (dBin gSub (dPeek 0) (dC (.int 3758096384))) (dCons (dC (.int 65536)) dNil))) (fSeq 2 (fCons (fName 1) (fCons (fName 2) fNil))))
  (gSeq (gUnp (dCB gDivmod (dCons (dPeek 2) (dCons (dC (.int 256)) dNil))) (fSeq 2 (fCons (fName 3) (fCons (fName 4) fNil))))
  (gSeq (gIf (dOr (dBl (dBin gNin (dPeek 1) (dTup (dCons (dC (.int 0)) (dCons (dC (.int 1)) dNil))))) (dOr (dNot (dBl (dChain gLe gLe (dC (.int 1)) (dPeek 3) (dC (.int 32))))) (dBl (dBin gNin (dPeek 4) (dC k_WIDTHS)))))
  (gErr 2)
  gNext)
  (gSeq (gSet 5 (dMake 4 (f_OneTime_init) (dCons (dMake 3 (f_Suite_init) (dCons (dVar 1) (dCons (dVar 3) dNil))) (dCons (dVar 4) dNil))))
  (gSeq (gIf (dBl (dBin gNe (dFld okF "code" (dVar 5)) (dPeek 0)))
  (gErr 2)
  gNext)
  (gRet (dVar 5))))))))
def f_one_time_of : List D → R D := fnV 6 g_one_time_of
/-! ### TreeKind_init -/
abbrev s_TreeKind_init : Stmt := inClass (topS 34) 0
def g_TreeKind_init : En → Out := (gSeq (gIf (dNot (dBl (dChain gLe gLe (dC (.int 0)) (dPeek 2) (dC (.int 25)))))
  (gErr 1)
  gNext)
  (gSeq (gPut okF 0 "one_time" (dVar 1))
  (gSeq (gPut okF 0 "suite" (dFld okF "suite" (dVar 1)))
  (gSeq (gPut okF 0 "height" (dVar 2))
  (gSeq (gPut okF 0 "places" (dBin gShl (dC (.int 1)) (dPeek 2)))
  (gPut okF 0 "code" (dMethB 5 "_code" (f_TreeKind__code) dNil)))))))
def f_TreeKind_init : List D → R (List (Str × D)) := fnB 3 5 g_TreeKind_init
/-! ### tree_kind_of -/
abbrev s_tree_kind_of : Stmt := topS 35
def g_tree_kind_of_t1 : En → Out := (gSeq (gIf (dNot (dBl (dChain gLe gLe (dC (.int 0)) (dPeek 3) (dC (.int 25)))))
  (gErr 2)
  gNext)
  (gSeq (gSet 4 (dMake 5 (f_TreeKind_init) (dCons (dVar 2) (dCons (dVar 3) dNil))))
  (gSeq (gIf (dBl (dBin gNe (dFld okF "code" (dVar 4)) (dPeek 0)))
  (gErr 2)
  gNext)
  (gRet (dVar 4)))))
def g_tree_kind_of : En → Out := (gSeq (gSet 2 (dCall (f_one_time_of) (dCons (dVar 1) dNil)))
  (gSeq (gSet 3 (dBin gSub (dBin gSub (dBin gSub (dPeek 0) (dC (.int 3892314112))) (dBin gMul (dC (.int 65536)) (dFld okF "core" (dFld okF "suite" (dVar 2))))) (dBin gMul (dC (.int 256)) (dFld okF "size" (dFld okF "suite" (dVar 2))))))
  (gSeq (gIf (dBl (dChain gLe gLe (dC (.int 5)) (dPeek 0) (dC (.int 9))))
  (gSet 3 (dBin gIx (dC k_PUBLISHED) (dBin gSub (dPeek 0) (dC (.int 5)))))
  gNext)
  g_tree_kind_of_t1)))
def f_tree_kind_of : List D → R D := fnV 5 g_tree_kind_of
/-! ### _law_read -/
abbrev s__law_read : Stmt := topS 42
def g__law_read_y1 : En → Out := (gSet 5 (dCall (f_tree_kind_of) (dCons (dVar 0) (dCons (dCall (f__law_once) (dCons (dVar 1) (dCons (dVar 2) (dCons (dVar 3) dNil)))) dNil))))
def g__law_read : En → Out := (gSeq (gSet 4 (dBin gGt (dCB gLen (dCons (dNew (dLc [7] (dRng (dCons (dC (.int 26)) dNil)) (fName 7) (dBl (dBin gEq (dCall (f__law_code) (dCons (dVar 1) (dCons (dVar 2) (dCons (dVar 7) dNil)))) (dPeek 0))) (dVar 7))) dNil)) (dC (.int 0))))
  (gSeq (gTryAs 6 (fun n => isub n 0) g__law_read_y1
  (gRet (dAndV (dBl (dCB (gIsE isub) (dCons (dPeek 6) (dCons (dC (.cls 2)) dNil)))) (dAndV (dBl (dOfB (dNot (dBl (dCB (gIsE isub) (dCons (dPeek 6) (dCons (dC (.cls 1)) dNil))))))) (dOfB (dNot (dBl (dVar 4))))))))
  (gRet (dAndV (dBl (dVar 4)) (dAndV (dBl (dBin gEq (dFld okF "code" (dVar 5)) (dPeek 0))) (dCall (f__law_fields) (dCons (dVar 5) (dCons (dVar 1) (dCons (dVar 2) (dCons (dVar 3) (dCons (dFld okF "height" (dVar 5)) dNil)))))))))))
def f__law_read : List D → R D := fnV 8 g__law_read
/-! ### _law_refused -/
abbrev s__law_refused : Stmt := topS 43
def g__law_refused_y1 : En → Out := (gDrop (dMake 5 (f_TreeKind_init) (dCons (dVar 0) (dCons (dVar 1) dNil))))
def g__law_refused : En → Out := (gSeq (gTryAs 2 (fun n => isub n 0) g__law_refused_y1
  (gRet (dAndV (dBl (dCB (gIsE isub) (dCons (dPeek 2) (dCons (dC (.cls 1)) dNil)))) (dOfB (dNot (dBl (dCB (gIsE isub) (dCons (dPeek 2) (dCons (dC (.cls 2)) dNil)))))))))
  (gRet (dC (.bl false))))
def f__law_refused : List D → R D := fnV 3 g__law_refused
/-! ### _law_no_once -/
abbrev s__law_no_once : Stmt := topS 44
def g__law_no_once_y1 : En → Out := (gDrop (dCall (f_tree_kind_of) (dCons (dVar 0) (dCons (dVar 1) dNil))))
def g__law_no_once : En → Out := (gSeq (gTryAs 2 (fun n => isub n 0) g__law_no_once_y1
  (gRet (dAndV (dBl (dCB (gIsE isub) (dCons (dPeek 2) (dCons (dC (.cls 2)) dNil)))) (dOfB (dNot (dBl (dCB (gIsE isub) (dCons (dPeek 2) (dCons (dC (.cls 1)) dNil)))))))))
  (gRet (dC (.bl false))))
def f__law_no_once : List D → R D := fnV 3 g__law_no_once
/-! ### law -/
abbrev s_law : Stmt := topS 45
def g_law_b1 : En → Out := (gIf (dNot (dTru (dCall (f__law_refused) (dCons (dVar 6) (dCons (dVar 8) dNil)))))
  (gRet (dC (.bl false)))
  gNext)
def g_law_b2 : En → Out := (gSeq (gIf (dNot (dTru (dCall (f__law_read) (dCons (dVar 11) (dCons (dVar 2) (dCons (dVar 3) (dCons (dVar 4) dNil)))))))
  (gRet (dC (.bl false)))
  gNext)
  (gIf (dNot (dTru (dCall (f__law_read) (dCons (dVar 11) (dCons (dBin gMod (dBin gFDiv (dPeek 9) (dC (.int 7))) (dC (.int 2))) (dCons (dBin gAdd (dC (.int 1)) (dBin gMod (dBin gFDiv (dPeek 9) (dC (.int 14))) (dC (.int 32)))) (dCons (dBin gIx (dNew (dLst (dCons (dC (.int 1)) (dCons (dC (.int 2)) (dCons (dC (.int 4)) (dCons (dC (.int 8)) dNil)))))) (dBin gMod (dBin gFDiv (dPeek 9) (dC (.int 448))) (dC (.int 4)))) dNil)))))))
  (gRet (dC (.bl false)))
  gNext))
def g_law_t3 : En → Out := (gSeq (gSet 9 (dCB gAbs (dCons (dCall (f__law_cell) (dCons (dVar 0) (dCons (dC (.int 1)) dNil))) dNil)))
  (gSeq (gSet 10 (dBin gAdd (dFld okF "code" (dVar 7)) (dBin gMul (dBin gIx (dNew (dLst (dCons (dC (.int 1)) (dCons (dC (.int 256)) (dCons (dC (.int 65536)) (dCons (dUn gNeg (dC (.int 1))) (dCons (dC (.int 26)) (dCons (dUn gNeg (dC (.int 256))) dNil)))))))) (dBin gMod (dPeek 9) (dC (.int 6)))) (dBin gMod (dBin gFDiv (dPeek 9) (dC (.int 6))) (dC (.int 3))))))
  (gSeq (gFor (dISeq (dNew (dLst (dCons (dVar 10) (dCons (dBin gMod (dPeek 9) (dC (.int 12))) (dCons (dVar 9) (dCons (dBin gAdd (dC (.int 3892314112)) (dBin gMod (dPeek 9) (dC (.int 140000)))) (dCons (dUn gNeg (dPeek 9)) dNil)))))))) (fName 11) g_law_b2)
  (gRet (dAndV (dBl (dCall (f__law_no_once) (dCons (dFld okF "code" (dVar 7)) (dCons (dC (.int 0)) dNil)))) (dCall (f__law_no_once) (dCons (dFld okF "code" (dVar 7)) (dCons (dBin gAdd (dC (.int 3758096384)) (dBin gMod (dPeek 9) (dC (.int 256)))) dNil))))))))
def g_law : En → Out := (gSeq (gSet 1 (dCB gAbs (dCons (dCall (f__law_cell) (dCons (dVar 0) (dCons (dC (.int 0)) dNil))) dNil)))
  (gSeq (gSet 2 (dBin gMod (dPeek 1) (dC (.int 2))))
  (gSeq (gSet 3 (dBin gIx (dNew (dLst (dCons (dBin gAdd (dC (.int 1)) (dBin gMod (dBin gFDiv (dPeek 1) (dC (.int 2))) (dC (.int 32)))) (dCons (dC (.int 32)) dNil)))) (dCB gInt (dCons (dBin gEq (dBin gMod (dBin gFDiv (dPeek 1) (dC (.int 64))) (dC (.int 4))) (dC (.int 3))) dNil))))
  (gSeq (gSet 4 (dBin gIx (dNew (dLst (dCons (dC (.int 1)) (dCons (dC (.int 2)) (dCons (dC (.int 4)) (dCons (dC (.int 8)) dNil)))))) (dBin gMod (dBin gFDiv (dPeek 1) (dC (.int 256))) (dC (.int 4)))))
  (gSeq (gSet 5 (dBin gIx (dNew (dLst (dCons (dBin gMod (dBin gFDiv (dPeek 1) (dC (.int 1024))) (dC (.int 26))) (dCons (dBin gMul (dC (.int 5)) (dBin gMod (dBin gFDiv (dPeek 1) (dC (.int 1024))) (dC (.int 6)))) dNil)))) (dBin gMod (dBin gFDiv (dPeek 1) (dC (.int 32768))) (dC (.int 2)))))
  (gSeq (gSet 6 (dMake 4 (f_OneTime_init) (dCons (dMake 3 (f_Suite_init) (dCons (dVar 2) (dCons (dVar 3) dNil))) (dCons (dVar 4) dNil))))
  (gSeq (gSet 7 (dMake 5 (f_TreeKind_init) (dCons (dVar 6) (dCons (dVar 5) dNil))))
  (gSeq (gIf (dNot (dTru (dCall (f__law_fields) (dCons (dVar 7) (dCons (dVar 2) (dCons (dVar 3) (dCons (dVar 4) (dCons (dVar 5) dNil))))))))
  (gRet (dC (.bl false)))
  gNext)
  (gSeq (gIf (dNot (dTru (dCall (f__law_fields) (dCons (dCall (f_tree_kind_of) (dCons (dFld okF "code" (dVar 7)) (dCons (dFld okF "code" (dVar 6)) dNil))) (dCons (dVar 2) (dCons (dVar 3) (dCons (dVar 4) (dCons (dVar 5) dNil))))))))
  (gRet (dC (.bl false)))
  gNext)
  (gSeq (gFor (dISeq (dNew (dLst (dCons (dUn gNeg (dC (.int 1))) (dCons (dC (.int 26)) (dCons (dBin gAdd (dC (.int 26)) (dBin gMod (dPeek 1) (dC (.int 99)))) (dCons (dBin gSub (dUn gNeg (dC (.int 1))) (dBin gMod (dPeek 1) (dC (.int 99)))) dNil))))))) (fName 8) g_law_b1)
  g_law_t3))))))))))
def f_law : List D → R D := fnV 12 g_law
section
variable {P : Program} {w : World} {K : PySem.W.Frag} {c : Cs} {mg : Str → Option Value} {base : Heap}
theorem sc_big : FnScope ["number", "size", "k"] ["number", "size"] (defScope s_big) := ⟨rfl, rfl, rfl, by decide +kernel, rfl, by decide +kernel, by decide +kernel⟩
theorem ok_big {f : Addr} {fd : FuncData} (F : Fun K "big" "big" s_big f fd) (m_range : mg "range" = none) (x_OutOfRange : ExcAt K c mg "OutOfRange" 1) : FnOk P w K mg base (L2.CX P w) 1 f fd ["number", "size"] (spN K c 2 f_big) :=
  fn_okN 3 2 g_big F sc_big rfl rfl (by decide) fun cdv A outer s H E hr C => ⟨_, (vss_cons (vs_if (vw_pt (vw_or (vt_cmp op_lt gI0_bl (vp_var 0) (vp_of ve_int)) (vw_or1 (vt_cmp op_gt gI0_bl (vp_of (ve_shr (vp_var 0) (vp_of (ve_mul (vp_of ve_int) (vp_var 1))))) (vp_of ve_int)))))
  (vss_one (vs_raise C x_OutOfRange))
  vss_nil)
  (vss_one (vs_retN (vn_lc [("k", 2)] rfl C.nd (vip_of (vi_range3 m_range (va_cons (ve_sub (vp_var 1) (vp_of ve_int)) (va_cons (ve_un un_neg gNeg_ok (vp_of ve_int)) (va_cons (ve_un un_neg gNeg_ok (vp_of ve_int)) va_nil))))) (blkOk_by (show blkC ["number", "size", "k"] (defScope s_big) _ _ = true from by decide +kernel)) (fun _ _ _ _ _ => (vg_name 2 C.nd)) (fun _ _ _ _ _ => vts_nil) (fun _ _ _ _ _ => (ve_band (vp_of (ve_shr (vp_var 0) (vp_of (ve_mul (vp_of ve_int) (vp_var 2))))) (vp_of ve_int)))))))⟩
theorem sc_u16 : FnScope ["number"] ["number"] (defScope s_u16) := ⟨rfl, rfl, rfl, by decide +kernel, rfl, by decide +kernel, by decide +kernel⟩
theorem ok_u16 {f : Addr} {fd : FuncData} (F : Fun K "u16" "u16" s_u16 f fd) (F_big : DefAt P w K mg base "big" 1 2 (spN K c 2 f_big)) : FnOk P w K mg base (L2.CX P w) 2 f fd ["number"] (spN K c 1 f_u16) :=
  fn_okN 1 1 g_u16 F sc_u16 rfl rfl (by decide) fun cdv A outer s H E hr C => ⟨_, (vss_one (vs_retN (vn_call F_big (hr.mono (by decide)) C.tk (va_cons (ve_var 0) (va_cons ve_int va_nil)))))⟩
theorem sc_u32 : FnScope ["number"] ["number"] (defScope s_u32) := ⟨rfl, rfl, rfl, by decide +kernel, rfl, by decide +kernel, by decide +kernel⟩
theorem ok_u32 {f : Addr} {fd : FuncData} (F : Fun K "u32" "u32" s_u32 f fd) (F_big : DefAt P w K mg base "big" 1 2 (spN K c 2 f_big)) : FnOk P w K mg base (L2.CX P w) 2 f fd ["number"] (spN K c 1 f_u32) :=
  fn_okN 1 1 g_u32 F sc_u32 rfl rfl (by decide) fun cdv A outer s H E hr C => ⟨_, (vss_one (vs_retN (vn_call F_big (hr.mono (by decide)) C.tk (va_cons (ve_var 0) (va_cons ve_int va_nil)))))⟩
theorem sc_schedule : FnScope ["block", "words", "at", "x", "y", "zero", "one"] ["block"] (defScope s_schedule) := ⟨rfl, rfl, rfl, by decide +kernel, rfl, by decide +kernel, by decide +kernel⟩
theorem ok_schedule {f : Addr} {fd : FuncData} (F : Fun K "schedule" "schedule" s_schedule f fd) (m_range : mg "range" = none) (c_FULL : ∃ t, mg "FULL" = some (.int 4294967295 t)) : FnOk P w K mg base (L2.CX P w) 1 f fd ["block"] (spN K c 1 f_schedule) :=
  fn_okN 7 1 g_schedule F sc_schedule rfl rfl (by decide) fun cdv A outer s H E hr C => ⟨_, (vss_cons (vs_setN 1 C.nd (vn_lst va_nil))
  (vss_cons (vs_for C (vi_range3 m_range (va_cons ve_int (va_cons ve_int (va_cons ve_int va_nil)))) (vg_name 2 C.nd)
  (vss_one (vs_append 1 (ve_bor (vp_of (ve_bor (vp_of (ve_bor (vp_of (ve_shl (vp_of (ve_ix ix_seq gIx_ok (vp_var 0) (vp_var 2))) (vp_of ve_int))) (vp_of (ve_shl (vp_of (ve_ix ix_seq gIx_ok (vp_var 0) (vp_of (ve_add (vp_var 2) (vp_of ve_int))))) (vp_of ve_int))))) (vp_of (ve_shl (vp_of (ve_ix ix_seq gIx_ok (vp_var 0) (vp_of (ve_add (vp_var 2) (vp_of ve_int))))) (vp_of ve_int))))) (vp_of (ve_ix ix_seq gIx_ok (vp_var 0) (vp_of (ve_add (vp_var 2) (vp_of ve_int)))))))))
  (vss_cons (vs_for C (vi_range2 m_range (va_cons ve_int (va_cons ve_int va_nil))) (vg_name 2 C.nd)
  (vss_cons (vs_set 3 C.nd (ve_ix ix_seq gIx_ok (vp_var 1) (vp_of (ve_sub (vp_var 2) (vp_of ve_int)))))
  (vss_cons (vs_set 4 C.nd (ve_ix ix_seq gIx_ok (vp_var 1) (vp_of (ve_sub (vp_var 2) (vp_of ve_int)))))
  (vss_cons (vs_set 5 C.nd (ve_bxor (vp_of (ve_bxor (vp_of (ve_bor (vp_of (ve_shr (vp_var 3) (vp_of ve_int))) (vp_of (ve_shl (vp_var 3) (vp_of ve_int))))) (vp_of (ve_bor (vp_of (ve_shr (vp_var 3) (vp_of ve_int))) (vp_of (ve_shl (vp_var 3) (vp_of ve_int))))))) (vp_of (ve_shr (vp_var 3) (vp_of ve_int)))))
  (vss_cons (vs_set 6 C.nd (ve_bxor (vp_of (ve_bxor (vp_of (ve_bor (vp_of (ve_shr (vp_var 4) (vp_of ve_int))) (vp_of (ve_shl (vp_var 4) (vp_of ve_int))))) (vp_of (ve_bor (vp_of (ve_shr (vp_var 4) (vp_of ve_int))) (vp_of (ve_shl (vp_var 4) (vp_of ve_int))))))) (vp_of (ve_shr (vp_var 4) (vp_of ve_int)))))
  (vss_one (vs_append 1 (ve_band (vp_of (ve_add (vp_of (ve_add (vp_of (ve_add (vp_of (ve_band (vp_var 6) (vp_of (ve_gint c_FULL)))) (vp_of (ve_ix ix_seq gIx_ok (vp_var 1) (vp_of (ve_sub (vp_var 2) (vp_of ve_int))))))) (vp_of (ve_band (vp_var 5) (vp_of (ve_gint c_FULL)))))) (vp_of (ve_ix ix_seq gIx_ok (vp_var 1) (vp_of (ve_sub (vp_var 2) (vp_of ve_int))))))) (vp_of (ve_gint c_FULL))))))))))
  (vss_one (vs_retO 1)))))⟩
theorem sc_compress : FnScope ["words", "block", "a", "b", "c", "d", "e", "f", "g", "h", "constant", "word", "one", "first", "zero", "second", "old", "new"] ["words", "block"] (defScope s_compress) := ⟨rfl, rfl, rfl, by decide +kernel, rfl, by decide +kernel, by decide +kernel⟩
theorem ok_compress {f : Addr} {fd : FuncData} (F : Fun K "compress" "compress" s_compress f fd) (m_zip : mg "zip" = none) (c_CONSTANTS : ∃ a, mg "CONSTANTS" = some (.ref a) ∧ ∀ B, Rep K c B k_CONSTANTS (.ref a)) (c_FULL : ∃ t, mg "FULL" = some (.int 4294967295 t)) (F_schedule : DefAt P w K mg base "schedule" 1 1 (spN K c 1 f_schedule)) : FnOk P w K mg base (L2.CX P w) 2 f fd ["words", "block"] (spN K c 2 f_compress) :=
  fn_okN 18 2 g_compress F sc_compress rfl rfl (by decide) fun cdv A outer s H E hr C => ⟨_, (vss_cons (vs_unp (ve_var 0) (vg_seq K rfl rfl (vgs_cons (vg_name 2 C.nd) (vgs_cons (vg_name 3 C.nd) (vgs_cons (vg_name 4 C.nd) (vgs_cons (vg_name 5 C.nd) (vgs_cons (vg_name 6 C.nd) (vgs_cons (vg_name 7 C.nd) (vgs_cons (vg_name 8 C.nd) (vgs_cons (vg_name 9 C.nd) vgs_nil))))))))))
  (vss_cons (vs_for C (vi_zipU m_zip (va_cons (ve_gcon c_CONSTANTS) (va_cons (vn_ve (vn_call F_schedule (hr.mono (by decide)) C.tk (va_cons (ve_var 1) va_nil))) va_nil)) (fun h => pi_zip (by rfl) m_zip h) (fun h => pi_zipM (by rfl) m_zip h)) (vg_seq K rfl rfl (vgs_cons (vg_name 10 C.nd) (vgs_cons (vg_name 11 C.nd) vgs_nil)))
  (vss_cons (vs_set 12 C.nd (ve_bxor (vp_of (ve_bxor (vp_of (ve_bor (vp_of (ve_shr (vp_var 6) (vp_of ve_int))) (vp_of (ve_shl (vp_var 6) (vp_of ve_int))))) (vp_of (ve_bor (vp_of (ve_shr (vp_var 6) (vp_of ve_int))) (vp_of (ve_shl (vp_var 6) (vp_of ve_int))))))) (vp_of (ve_bor (vp_of (ve_shr (vp_var 6) (vp_of ve_int))) (vp_of (ve_shl (vp_var 6) (vp_of ve_int)))))))
  (vss_cons (vs_set 13 C.nd (ve_add (vp_of (ve_add (vp_of (ve_add (vp_of (ve_add (vp_var 9) (vp_of (ve_band (vp_var 12) (vp_of (ve_gint c_FULL)))))) (vp_of (ve_bxor (vp_of (ve_band (vp_var 6) (vp_var 7))) (vp_of (ve_band (vp_of (ve_un un_inv gInv_ok (vp_var 6))) (vp_var 8))))))) (vp_var 10))) (vp_var 11)))
  (vss_cons (vs_set 14 C.nd (ve_bxor (vp_of (ve_bxor (vp_of (ve_bor (vp_of (ve_shr (vp_var 2) (vp_of ve_int))) (vp_of (ve_shl (vp_var 2) (vp_of ve_int))))) (vp_of (ve_bor (vp_of (ve_shr (vp_var 2) (vp_of ve_int))) (vp_of (ve_shl (vp_var 2) (vp_of ve_int))))))) (vp_of (ve_bor (vp_of (ve_shr (vp_var 2) (vp_of ve_int))) (vp_of (ve_shl (vp_var 2) (vp_of ve_int)))))))
  (vss_cons (vs_set 15 C.nd (ve_add (vp_of (ve_band (vp_var 14) (vp_of (ve_gint c_FULL)))) (vp_of (ve_bxor (vp_of (ve_bxor (vp_of (ve_band (vp_var 2) (vp_var 3))) (vp_of (ve_band (vp_var 2) (vp_var 4))))) (vp_of (ve_band (vp_var 3) (vp_var 4)))))))
  (vss_cons (vs_set 9 C.nd (ve_var 8))
  (vss_cons (vs_set 8 C.nd (ve_var 7))
  (vss_cons (vs_set 7 C.nd (ve_var 6))
  (vss_cons (vs_set 6 C.nd (ve_band (vp_of (ve_add (vp_var 5) (vp_var 13))) (vp_of (ve_gint c_FULL))))
  (vss_cons (vs_set 5 C.nd (ve_var 4))
  (vss_cons (vs_set 4 C.nd (ve_var 3))
  (vss_cons (vs_set 3 C.nd (ve_var 2))
  (vss_one (vs_set 2 C.nd (ve_band (vp_of (ve_add (vp_var 13) (vp_var 15))) (vp_of (ve_gint c_FULL)))))))))))))))))
  (vss_one (vs_retN (vn_lc [("old", 16), ("new", 17)] rfl C.nd (vip_zip m_zip (vap_cons (vp_var 0) (vap_cons (vp_of (vn_ve (vn_lst (va_cons (ve_var 2) (va_cons (ve_var 3) (va_cons (ve_var 4) (va_cons (ve_var 5) (va_cons (ve_var 6) (va_cons (ve_var 7) (va_cons (ve_var 8) (va_cons (ve_var 9) va_nil))))))))))) vap_nil)) (fun h => pi_zip (by rfl) m_zip h)) (blkOk_by (show blkC ["words", "block", "a", "b", "c", "d", "e", "f", "g", "h", "constant", "word", "one", "first", "zero", "second", "old", "new"] (defScope s_compress) _ _ = true from by decide +kernel)) (fun _ _ _ _ _ => (vg_seq K rfl rfl (vgs_cons (vg_name 16 C.nd) (vgs_cons (vg_name 17 C.nd) vgs_nil)))) (fun _ _ _ _ _ => vts_nil) (fun _ _ _ _ _ => (ve_band (vp_of (ve_add (vp_var 16) (vp_var 17))) (vp_of (ve_gint c_FULL)))))))))⟩
theorem sc_sha256 : FnScope ["data", "zeros", "padded", "words", "at", "result", "word"] ["data"] (defScope s_sha256) := ⟨rfl, rfl, rfl, by decide +kernel, rfl, by decide +kernel, by decide +kernel⟩
theorem ok_sha256 {f : Addr} {fd : FuncData} (F : Fun K "sha256" "sha256" s_sha256 f fd) (m_len : mg "len" = none) (m_list : mg "list" = none) (m_range : mg "range" = none) (c_STARTS : ∃ a, mg "STARTS" = some (.ref a) ∧ ∀ B, Rep K c B k_STARTS (.ref a)) (F_big : DefAt P w K mg base "big" 1 2 (spN K c 2 f_big)) (F_compress : DefAt P w K mg base "compress" 2 2 (spN K c 2 f_compress)) (F_u32 : DefAt P w K mg base "u32" 2 1 (spN K c 1 f_u32)) : FnOk P w K mg base (L2.CX P w) 3 f fd ["data"] (spN K c 1 f_sha256) :=
  fn_okN 7 1 g_sha256 F sc_sha256 rfl rfl (by decide) fun cdv A outer s H E hr C => ⟨_, (vss_cons (vs_set 1 C.nd (ve_mod (vp_of (ve_sub (vp_of ve_int) (vp_of (ve_len m_len (vap_cons (vp_var 0) vap_nil))))) (vp_of ve_int)))
  (vss_cons (vs_set 2 C.nd (vn_ve (vn_cat (vp_of (vn_ve (vn_cat (vp_of (vn_ve (vn_cat (vp_var 0) (vp_of (vn_ve (vn_lst (va_cons ve_int va_nil))))))) (vp_of (vn_ve (vn_rep (vp_of (vn_ve (vn_lst (va_cons ve_int va_nil)))) (vp_var 1))))))) (vp_of (vn_ve (vn_call F_big (hr.mono (by decide)) C.tk (va_cons (ve_mul (vp_of ve_int) (vp_of (ve_len m_len (vap_cons (vp_var 0) vap_nil)))) (va_cons ve_int va_nil))))))))
  (vss_cons (vs_set 3 C.nd (vn_ve (vn_list m_list (vap_cons (vp_of (ve_gcon c_STARTS)) vap_nil))))
  (vss_cons (vs_for C (vi_range3 m_range (va_cons ve_int (va_cons (ve_len m_len (vap_cons (vp_var 2) vap_nil)) (va_cons ve_int va_nil)))) (vg_name 4 C.nd)
  (vss_one (vs_set 3 C.nd (vn_ve (vn_call F_compress (hr.mono (by decide)) C.tk (va_cons (ve_var 3) (va_cons (vn_ve (vn_slice (vp_var 2) (vo_some (ve_var 4)) (vo_some (ve_add (vp_var 4) (vp_of ve_int))))) va_nil)))))))
  (vss_cons (vs_setN 5 C.nd (vn_lst va_nil))
  (vss_cons (vs_for C (vi_seq (ve_var 3)) (vg_name 6 C.nd)
  (vss_one (vs_setN 5 C.nd (vn_cat (vp_var 5) (vp_of (vn_ve (vn_call F_u32 (hr.mono (by decide)) C.tk (va_cons (ve_var 6) va_nil))))))))
  (vss_one (vs_retO 5))))))))⟩
theorem sc_small_core : FnScope ["data", "state", "byte", "result", "turn"] ["data"] (defScope s_small_core) := ⟨rfl, rfl, rfl, by decide +kernel, rfl, by decide +kernel, by decide +kernel⟩
theorem ok_small_core {f : Addr} {fd : FuncData} (F : Fun K "small_core" "small_core" s_small_core f fd) (m_len : mg "len" = none) (m_range : mg "range" = none) (c_PRIME : ∃ t, mg "PRIME" = some (.int 65521 t)) : FnOk P w K mg base (L2.CX P w) 1 f fd ["data"] (spN K c 1 f_small_core) :=
  fn_okN 5 1 g_small_core F sc_small_core rfl rfl (by decide) fun cdv A outer s H E hr C => ⟨_, (vss_cons (vs_set 1 C.nd ve_int)
  (vss_cons (vs_for C (vi_seq (ve_var 0)) (vg_name 2 C.nd)
  (vss_one (vs_set 1 C.nd (ve_mod (vp_of (ve_add (vp_of (ve_add (vp_of (ve_mul (vp_var 1) (vp_of ve_int))) (vp_var 2))) (vp_of ve_int))) (vp_of (ve_gint c_PRIME))))))
  (vss_cons (vs_set 1 C.nd (ve_mod (vp_of (ve_add (vp_of (ve_add (vp_of (ve_mul (vp_var 1) (vp_of ve_int))) (vp_of (ve_len m_len (vap_cons (vp_var 0) vap_nil))))) (vp_of ve_int))) (vp_of (ve_gint c_PRIME))))
  (vss_cons (vs_setN 3 C.nd (vn_lst va_nil))
  (vss_cons (vs_for C (vi_range1 m_range (va_cons ve_int va_nil)) (vg_name 4 C.nd)
  (vss_cons (vs_set 1 C.nd (ve_mod (vp_of (ve_add (vp_of (ve_mul (vp_var 1) (vp_of ve_int))) (vp_of ve_int))) (vp_of (ve_gint c_PRIME))))
  (vss_one (vs_append 3 (ve_mod (vp_var 1) (vp_of ve_int))))))
  (vss_one (vs_retO 3)))))))⟩
theorem sc_is_integer : FnScope ["value"] ["value"] (defScope s_is_integer) := ⟨rfl, rfl, rfl, by decide +kernel, rfl, by decide +kernel, by decide +kernel⟩
theorem ok_is_integer {f : Addr} {fd : FuncData} (F : Fun K "is_integer" "is_integer" s_is_integer f fd) (m_bool : mg "bool" = none) (m_int : mg "int" = none) (m_isinstance : mg "isinstance" = none) : FnOk P w K mg base (L2.CX P w) 1 f fd ["value"] (spV K c 1 f_is_integer) :=
  fn_ok 1 1 g_is_integer F sc_is_integer rfl rfl (by decide) fun cdv A outer s H E hr C => ⟨_, (vss_one (vs_ret (ve_and (ve_isi m_isinstance (vap_cons (vp_var 0) (vap_cons (vp_of (ve_bltn m_int (u := .type "int") (v := .ty "int") (by decide +kernel) rfl (fun _ => .ty _))) vap_nil))) (ve_one (ve_not (ve_isi m_isinstance (vap_cons (vp_var 0) (vap_cons (vp_of (ve_bltn m_bool (u := .type "bool") (v := .ty "bool") (by decide +kernel) rfl (fun _ => .ty _))) vap_nil))))))))⟩
theorem sc_Suite_init : FnScope ["self", "core", "size"] ["self", "core", "size"] (defScope s_Suite_init) := ⟨rfl, rfl, rfl, by decide +kernel, rfl, by decide +kernel, by decide +kernel⟩
theorem ok_Suite_init {f : Addr} {fd : FuncData} (F : Fun K "__init__" "Suite.__init__" s_Suite_init f fd) (c_MOST : ∃ t, mg "MOST" = some (.int 32 t)) (c_WORDS : ∃ a, mg "WORDS" = some (.ref a) ∧ ∀ B, Rep K c B k_WORDS (.ref a)) (x_OutOfRange : ExcAt K c mg "OutOfRange" 1) (FT : FldTab K c okF) (F_is_integer : DefAt P w K mg base "is_integer" 1 1 (spV K c 1 f_is_integer)) : FnOk P w K mg base (L2.CX P w) 2 f fd ["self", "core", "size"] (spI K c 3 3 f_Suite_init) :=
  fn_okB 3 3 3 g_Suite_init F sc_Suite_init rfl rfl (by decide) fun me md =>
  have c_WORDS := con_at c_WORDS me md
  have x_OutOfRange := x_OutOfRange.at me md
  have FT := FT.at me md
  have F_is_integer := F_is_integer.atV me md
  fun cdv A outer s H E hr C => ⟨_, (vss_cons (vs_if (vw_pt (vw_or (vt_not (vt_truth (vp_of (ve_call F_is_integer (hr.mono (by decide)) C.tk (va_cons (ve_var 1) va_nil))))) (vw_or1 (vt_cmp op_notIn_seq gNin_ok (vp_var 1) (vp_of (ve_tup (va_cons ve_int (va_cons ve_int va_nil))))))))
  (vss_one (vs_raise C x_OutOfRange))
  vss_nil)
  (vss_cons (vs_if (vw_pt (vw_or (vt_not (vt_truth (vp_of (ve_call F_is_integer (hr.mono (by decide)) C.tk (va_cons (ve_var 2) va_nil))))) (vw_or1 (vt_not (vt_chain op_le op_le gI0_bl gI0_bl (vp_of ve_int) (vp_var 2) (vp_of (ve_gint c_MOST)))))))
  (vss_one (vs_raise C x_OutOfRange))
  vss_nil)
  (vss_cons (vs_put 0 FT (ve_var 1))
  (vss_cons (vs_put 0 FT (ve_var 2))
  (vss_one (vs_put 0 FT (ve_js (vj_cons (ve_fmt (vp_of (ve_ix ix_seq gIx_ok (vp_of (ve_gcon c_WORDS)) (vp_var 1)))) (vj_cons ve_str (vj_cons (ve_fmt (vp_var 2)) vj_nil))))))))))⟩
theorem sc_Suite_whole : FnScope ["self", "data"] ["self", "data"] (defScope s_Suite_whole) := ⟨rfl, rfl, rfl, by decide +kernel, rfl, by decide +kernel, by decide +kernel⟩
theorem ok_Suite_whole {f : Addr} {fd : FuncData} (F : Fun K "whole" "Suite.whole" s_Suite_whole f fd) (FT : FldTab K c okF) (F_sha256 : DefAt P w K mg base "sha256" 3 1 (spN K c 1 f_sha256)) (F_small_core : DefAt P w K mg base "small_core" 1 1 (spN K c 1 f_small_core)) : FnOk P w K mg base (L2.CX P w) 4 f fd ["self", "data"] (spN K c 2 f_Suite_whole) :=
  fn_okN 2 2 g_Suite_whole F sc_Suite_whole rfl rfl (by decide) fun cdv A outer s H E hr C => ⟨_, (vss_cons (vs_if (vt_cmp (op_eqD hr.units) gEq_ok (vp_of (ve_fld FT (ve_var 0))) (vp_of ve_int))
  (vss_one (vs_retN (vn_call F_sha256 (hr.mono (by decide)) C.tk (va_cons (ve_var 1) va_nil))))
  vss_nil)
  (vss_one (vs_retN (vn_call F_small_core (hr.mono (by decide)) C.tk (va_cons (ve_var 1) va_nil)))))⟩
theorem sc_Suite_digest : FnScope ["self", "data"] ["self", "data"] (defScope s_Suite_digest) := ⟨rfl, rfl, rfl, by decide +kernel, rfl, by decide +kernel, by decide +kernel⟩
theorem ok_Suite_digest {f : Addr} {fd : FuncData} (F : Fun K "digest" "Suite.digest" s_Suite_digest f fd) (FT : FldTab K c okF) (M_Suite_whole : MethAt P w K c mg base 3 "whole" 4 2 (spN K c 2 f_Suite_whole)) : FnOk P w K mg base (L2.CX P w) 5 f fd ["self", "data"] (spN K c 2 f_Suite_digest) :=
  fn_okN 2 2 g_Suite_digest F sc_Suite_digest rfl rfl (by decide) fun cdv A outer s H E hr C => ⟨_, (vss_one (vs_retN (vn_slice (vp_of (vn_ve (vn_meth M_Suite_whole (hr.mono (by decide)) C.tk (ve_var 0) (va_cons (ve_var 1) va_nil)))) vo_none (vo_some (ve_fld FT (ve_var 0))))))⟩
theorem sc_coefficient : FnScope ["data", "index", "width", "bit"] ["data", "index", "width"] (defScope s_coefficient) := ⟨rfl, rfl, rfl, by decide +kernel, rfl, by decide +kernel, by decide +kernel⟩
theorem ok_coefficient {f : Addr} {fd : FuncData} (F : Fun K "coefficient" "coefficient" s_coefficient f fd) (m_len : mg "len" = none) (c_WIDTHS : ∃ a, mg "WIDTHS" = some (.ref a) ∧ ∀ B, Rep K c B k_WIDTHS (.ref a)) (x_OutOfRange : ExcAt K c mg "OutOfRange" 1) : FnOk P w K mg base (L2.CX P w) 1 f fd ["data", "index", "width"] (spV K c 3 f_coefficient) :=
  fn_ok 4 3 g_coefficient F sc_coefficient rfl rfl (by decide) fun cdv A outer s H E hr C => ⟨_, (vss_cons (vs_if (vt_cmp op_notIn_seq gNin_ok (vp_var 2) (vp_of (ve_gcon c_WIDTHS)))
  (vss_one (vs_raise C x_OutOfRange))
  vss_nil)
  (vss_cons (vs_if (vw_pt (vw_or (vt_cmp op_lt gI0_bl (vp_var 1) (vp_of ve_int)) (vw_or1 (vt_cmp op_gt gI0_bl (vp_of (ve_mul (vp_of (ve_add (vp_var 1) (vp_of ve_int))) (vp_var 2))) (vp_of (ve_mul (vp_of ve_int) (vp_of (ve_len m_len (vap_cons (vp_var 0) vap_nil)))))))))
  (vss_one (vs_raise C x_OutOfRange))
  vss_nil)
  (vss_cons (vs_set 3 C.nd (ve_mul (vp_var 1) (vp_var 2)))
  (vss_one (vs_ret (ve_band (vp_of (ve_shr (vp_of (ve_ix ix_seq gIx_ok (vp_var 0) (vp_of (ve_fdiv (vp_var 3) (vp_of ve_int))))) (vp_of (ve_sub (vp_of (ve_sub (vp_of ve_int) (vp_var 2))) (vp_of (ve_mod (vp_var 3) (vp_of ve_int))))))) (vp_of (ve_sub (vp_of (ve_shl (vp_of ve_int) (vp_var 2))) (vp_of ve_int)))))))))⟩
theorem sc_checks_of : FnScope ["most", "width", "count"] ["most", "width"] (defScope s_checks_of) := ⟨rfl, rfl, rfl, by decide +kernel, rfl, by decide +kernel, by decide +kernel⟩
theorem ok_checks_of {f : Addr} {fd : FuncData} (F : Fun K "checks_of" "checks_of" s_checks_of f fd)  : FnOk P w K mg base (L2.CX P w) 1 f fd ["most", "width"] (spV K c 2 f_checks_of) :=
  fn_ok 3 2 g_checks_of F sc_checks_of rfl rfl (by decide) fun cdv A outer s H E hr C => ⟨_, (vss_cons (vs_set 2 C.nd ve_int)
  (vss_cons (vs_while fuelN C (vt_cmp op_le gI0_bl (vp_of (ve_shl (vp_of ve_int) (vp_of (ve_mul (vp_var 2) (vp_var 1))))) (vp_var 0))
  (vss_one (vs_set 2 C.nd (ve_add (vp_var 2) (vp_of ve_int)))))
  (vss_one (vs_ret (ve_var 2)))))⟩
theorem sc_OneTime__code : FnScope ["self"] ["self"] (defScope s_OneTime__code) := ⟨rfl, rfl, rfl, by decide +kernel, rfl, by decide +kernel, by decide +kernel⟩
theorem ok_OneTime__code {f : Addr} {fd : FuncData} (F : Fun K "_code" "OneTime._code" s_OneTime__code f fd) (c_FIRST_coefficients : ∃ t, mg "FIRST_coefficients" = some (.int 3758096384 t)) (c_WIDTHS : ∃ a, mg "WIDTHS" = some (.ref a) ∧ ∀ B, Rep K c B k_WIDTHS (.ref a)) (d_WIDTHS : ∃ a, mg "WIDTHS" = some (.ref a) ∧ (∃ ob, K.lookup a = some ob ∧ ob.cls = .type "tuple" ∧ ob.dict = none) ∧ ∀ B, Rep K c B (.ct kl_WIDTHS) (.ref a)) (FT : FldTab K c okF) : FnOk P w K mg base (L2.CX P w) 1 f fd ["self"] (spV K c 1 f_OneTime__code) :=
  fn_ok 1 1 g_OneTime__code F sc_OneTime__code rfl rfl (by decide) fun cdv A outer s H E hr C => ⟨_, (vss_cons (vs_if (vw_pt (vw_and (vt_cmp (op_eqD hr.units) gEq_ok (vp_of (ve_fld FT (ve_fld FT (ve_var 0)))) (vp_of ve_int)) (vw_and1 (vt_cmp (op_eqD hr.units) gEq_ok (vp_of (ve_fld FT (ve_fld FT (ve_var 0)))) (vp_of ve_int)))))
  (vss_one (vs_ret (ve_add (vp_of (ve_cindex d_WIDTHS (ve_fld FT (ve_var 0)))) (vp_of ve_int))))
  vss_nil)
  (vss_one (vs_ret (ve_add (vp_of (ve_add (vp_of (ve_add (vp_of (ve_gint c_FIRST_coefficients)) (vp_of (ve_mul (vp_of ve_int) (vp_of (ve_fld FT (ve_fld FT (ve_var 0)))))))) (vp_of (ve_mul (vp_of ve_int) (vp_of (ve_fld FT (ve_fld FT (ve_var 0)))))))) (vp_of (ve_fld FT (ve_var 0)))))))⟩
theorem sc_TreeKind__code : FnScope ["self", "suite"] ["self"] (defScope s_TreeKind__code) := ⟨rfl, rfl, rfl, by decide +kernel, rfl, by decide +kernel, by decide +kernel⟩
theorem ok_TreeKind__code {f : Addr} {fd : FuncData} (F : Fun K "_code" "TreeKind._code" s_TreeKind__code f fd) (c_FIRST_lms : ∃ t, mg "FIRST_lms" = some (.int 3892314112 t)) (c_PUBLISHED : ∃ a, mg "PUBLISHED" = some (.ref a) ∧ ∀ B, Rep K c B k_PUBLISHED (.ref a)) (d_PUBLISHED : ∃ a, mg "PUBLISHED" = some (.ref a) ∧ (∃ ob, K.lookup a = some ob ∧ ob.cls = .type "tuple" ∧ ob.dict = none) ∧ ∀ B, Rep K c B (.ct kl_PUBLISHED) (.ref a)) (FT : FldTab K c okF) : FnOk P w K mg base (L2.CX P w) 1 f fd ["self"] (spV K c 1 f_TreeKind__code) :=
  fn_ok 2 1 g_TreeKind__code F sc_TreeKind__code rfl rfl (by decide) fun cdv A outer s H E hr C => ⟨_, (vss_cons (vs_set 1 C.nd (ve_fld FT (ve_var 0)))
  (vss_cons (vs_if (vw_pt (vw_and (vt_cmp (op_eqD hr.units) gEq_ok (vp_of (ve_fld FT (ve_var 1))) (vp_of ve_int)) (vw_and (vt_cmp (op_eqD hr.units) gEq_ok (vp_of (ve_fld FT (ve_var 1))) (vp_of ve_int)) (vw_and1 (vt_cmp op_in_seq gIn_ok (vp_of (ve_fld FT (ve_var 0))) (vp_of (ve_gcon c_PUBLISHED)))))))
  (vss_one (vs_ret (ve_add (vp_of ve_int) (vp_of (ve_cindex d_PUBLISHED (ve_fld FT (ve_var 0)))))))
  vss_nil)
  (vss_one (vs_ret (ve_add (vp_of (ve_add (vp_of (ve_add (vp_of (ve_gint c_FIRST_lms)) (vp_of (ve_mul (vp_of ve_int) (vp_of (ve_fld FT (ve_var 1))))))) (vp_of (ve_mul (vp_of ve_int) (vp_of (ve_fld FT (ve_var 1))))))) (vp_of (ve_fld FT (ve_var 0))))))))⟩
theorem sc__law_cell : FnScope ["script", "k"] ["script", "k"] (defScope s__law_cell) := ⟨rfl, rfl, rfl, by decide +kernel, rfl, by decide +kernel, by decide +kernel⟩
theorem ok__law_cell {f : Addr} {fd : FuncData} (F : Fun K "_law_cell" "_law_cell" s__law_cell f fd) (m_int : mg "int" = none) (m_len : mg "len" = none) : FnOk P w K mg base (L2.CX P w) 1 f fd ["script", "k"] (spV K c 2 f__law_cell) :=
  fn_ok 2 2 g__law_cell F sc__law_cell rfl rfl (by decide) fun cdv A outer s H E hr C => ⟨_, (vss_cons (vs_if (vt_cmp op_lt gI0_bl (vp_var 1) (vp_of (ve_len m_len (vap_cons (vp_var 0) vap_nil))))
  (vss_one (vs_ret (ve_intc m_int (vap_cons (vp_of (ve_ix ix_seq gIx_ok (vp_var 0) (vp_var 1))) vap_nil))))
  vss_nil)
  (vss_one (vs_ret ve_int)))⟩
theorem sc__law_integer : FnScope ["actual"] ["actual"] (defScope s__law_integer) := ⟨rfl, rfl, rfl, by decide +kernel, rfl, by decide +kernel, by decide +kernel⟩
theorem ok__law_integer {f : Addr} {fd : FuncData} (F : Fun K "_law_integer" "_law_integer" s__law_integer f fd) (m_bool : mg "bool" = none) (m_int : mg "int" = none) (m_isinstance : mg "isinstance" = none) : FnOk P w K mg base (L2.CX P w) 1 f fd ["actual"] (spV K c 1 f__law_integer) :=
  fn_ok 1 1 g__law_integer F sc__law_integer rfl rfl (by decide) fun cdv A outer s H E hr C => ⟨_, (vss_one (vs_ret (ve_and (ve_isi m_isinstance (vap_cons (vp_var 0) (vap_cons (vp_of (ve_bltn m_int (u := .type "int") (v := .ty "int") (by decide +kernel) rfl (fun _ => .ty _))) vap_nil))) (ve_one (ve_not (ve_isi m_isinstance (vap_cons (vp_var 0) (vap_cons (vp_of (ve_bltn m_bool (u := .type "bool") (v := .ty "bool") (by decide +kernel) rfl (fun _ => .ty _))) vap_nil))))))))⟩
theorem sc__law_code : FnScope ["core", "size", "height"] ["core", "size", "height"] (defScope s__law_code) := ⟨rfl, rfl, rfl, by decide +kernel, rfl, by decide +kernel, by decide +kernel⟩
theorem ok__law_code {f : Addr} {fd : FuncData} (F : Fun K "_law_code" "_law_code" s__law_code f fd)  : FnOk P w K mg base (L2.CX P w) 1 f fd ["core", "size", "height"] (spV K c 3 f__law_code) :=
  fn_ok 3 3 g__law_code F sc__law_code rfl rfl (by decide) fun cdv A outer s H E hr C => ⟨_, (vss_cons (vs_if (vw_pt (vw_and (vt_cmp (op_eqD hr.units) gEq_ok (vp_var 0) (vp_of ve_int)) (vw_and (vt_cmp (op_eqD hr.units) gEq_ok (vp_var 1) (vp_of ve_int)) (vw_and1 (vt_cmp op_in_seq gIn_ok (vp_var 2) (vp_of (ve_tup (va_cons ve_int (va_cons ve_int (va_cons ve_int (va_cons ve_int (va_cons ve_int va_nil))))))))))))
  (vss_one (vs_ret (ve_add (vp_of ve_int) (vp_of (ve_fdiv (vp_var 2) (vp_of ve_int))))))
  vss_nil)
  (vss_one (vs_ret (ve_add (vp_of (ve_add (vp_of (ve_add (vp_of ve_int) (vp_of (ve_mul (vp_of ve_int) (vp_var 0))))) (vp_of (ve_mul (vp_of ve_int) (vp_var 1))))) (vp_var 2)))))⟩
theorem sc__law_once : FnScope ["core", "size", "width"] ["core", "size", "width"] (defScope s__law_once) := ⟨rfl, rfl, rfl, by decide +kernel, rfl, by decide +kernel, by decide +kernel⟩
theorem ok__law_once {f : Addr} {fd : FuncData} (F : Fun K "_law_once" "_law_once" s__law_once f fd)  : FnOk P w K mg base (L2.CX P w) 1 f fd ["core", "size", "width"] (spV K c 3 f__law_once) :=
  fn_ok 3 3 g__law_once F sc__law_once rfl rfl (by decide) fun cdv A outer s H E hr C => ⟨_, (vss_cons (vs_if (vw_pt (vw_and (vt_cmp (op_eqD hr.units) gEq_ok (vp_var 0) (vp_of ve_int)) (vw_and1 (vt_cmp (op_eqD hr.units) gEq_ok (vp_var 1) (vp_of ve_int)))))
  (vss_one (vs_ret (ve_ix ix_seq gIx_ok (vp_of (vn_ve (vn_lst (va_cons ve_int (va_cons ve_int (va_cons ve_int (va_cons ve_int va_nil))))))) (vp_of (ve_lindex (vn_ve (vn_lst (va_cons ve_int (va_cons ve_int (va_cons ve_int (va_cons ve_int va_nil)))))) (ve_var 2))))))
  vss_nil)
  (vss_one (vs_ret (ve_add (vp_of (ve_add (vp_of (ve_add (vp_of ve_int) (vp_of (ve_mul (vp_of ve_int) (vp_var 0))))) (vp_of (ve_mul (vp_of ve_int) (vp_var 1))))) (vp_var 2)))))⟩
theorem sc__law_fields : FnScope ["kind", "core", "size", "width", "height", "found", "one"] ["kind", "core", "size", "width", "height"] (defScope s__law_fields) := ⟨rfl, rfl, rfl, by decide +kernel, rfl, by decide +kernel, by decide +kernel⟩
theorem ok__law_fields {f : Addr} {fd : FuncData} (F : Fun K "_law_fields" "_law_fields" s__law_fields f fd) (m_len : mg "len" = none) (FT : FldTab K c okF) (F__law_code : DefAt P w K mg base "_law_code" 1 3 (spV K c 3 f__law_code)) (F__law_integer : DefAt P w K mg base "_law_integer" 1 1 (spV K c 1 f__law_integer)) : FnOk P w K mg base (L2.CX P w) 2 f fd ["kind", "core", "size", "width", "height"] (spV K c 5 f__law_fields) :=
  fn_ok 7 5 g__law_fields F sc__law_fields rfl rfl (by decide) fun cdv A outer s H E hr C => ⟨_, (vss_cons (vs_set 5 C.nd (vn_ve (vn_lst (va_cons (ve_fld FT (ve_var 0)) (va_cons (ve_fld FT (ve_var 0)) (va_cons (ve_fld FT (ve_var 0)) (va_cons (ve_fld FT (ve_fld FT (ve_var 0))) va_nil)))))))
  (vss_cons (vs_if (vt_cmp (op_neD hr.units) gNe_ok (vp_var 5) (vp_of (vn_ve (vn_lst (va_cons (ve_var 4) (va_cons (ve_shl (vp_of ve_int) (vp_var 4)) (va_cons (ve_call F__law_code (hr.mono (by decide)) C.tk (va_cons (ve_var 1) (va_cons (ve_var 2) (va_cons (ve_var 4) va_nil)))) (va_cons (ve_var 3) va_nil))))))))
  (vss_one (vs_ret ve_bl))
  vss_nil)
  (vss_cons (vs_if (vt_cmp op_gt gI0_bl (vp_of (ve_len m_len (vap_cons (vp_of (vn_ve (vn_lc [("one", 6)] rfl C.nd (vip_seq (vp_var 5)) (blkOk_by (show blkC ["kind", "core", "size", "width", "height", "found", "one"] (defScope s__law_fields) _ _ = true from by decide +kernel)) (fun _ _ _ _ _ => (vg_name 6 C.nd)) (fun _ _ _ _ _ => (vts_one (vt_not (vt_truth (vp_of (ve_call F__law_integer (hr.mono (by decide)) takes0 (va_cons (ve_var 6) va_nil))))))) (fun _ _ _ _ _ => (ve_var 6))))) vap_nil))) (vp_of ve_int))
  (vss_one (vs_ret ve_bl))
  vss_nil)
  (vss_one (vs_ret (ve_cmp (op_eqD hr.units) gEq_ok (vp_of (vn_ve (vn_lst (va_cons (ve_fld FT (ve_fld FT (ve_var 0))) (va_cons (ve_fld FT (ve_fld FT (ve_var 0))) (va_cons (ve_fld FT (ve_fld FT (ve_fld FT (ve_var 0)))) va_nil)))))) (vp_of (vn_ve (vn_lst (va_cons (ve_var 1) (va_cons (ve_var 2) (va_cons (ve_var 2) va_nil))))))))))))⟩
theorem sc_OneTime_init : FnScope ["self", "suite", "width"] ["self", "suite", "width"] (defScope s_OneTime_init) := ⟨rfl, rfl, rfl, by decide +kernel, rfl, by decide +kernel, by decide +kernel⟩
theorem ok_OneTime_init {f : Addr} {fd : FuncData} (F : Fun K "__init__" "OneTime.__init__" s_OneTime_init f fd) (c_WIDTHS : ∃ a, mg "WIDTHS" = some (.ref a) ∧ ∀ B, Rep K c B k_WIDTHS (.ref a)) (x_OutOfRange : ExcAt K c mg "OutOfRange" 1) (FT : FldTab K c okF) (F_checks_of : DefAt P w K mg base "checks_of" 1 2 (spV K c 2 f_checks_of)) (M_OneTime__code : MethAt P w K c mg base 4 "_code" 1 1 (spV K c 1 f_OneTime__code)) : FnOk P w K mg base (L2.CX P w) 2 f fd ["self", "suite", "width"] (spI K c 4 3 f_OneTime_init) :=
  fn_okB 3 3 4 g_OneTime_init F sc_OneTime_init rfl rfl (by decide) fun me md =>
  have c_WIDTHS := con_at c_WIDTHS me md
  have x_OutOfRange := x_OutOfRange.at me md
  have FT := FT.at me md
  have F_checks_of := F_checks_of.atV me md
  have M_OneTime__code := M_OneTime__code.atV me md
  fun cdv A outer s H E hr C => ⟨_, (vss_cons (vs_if (vt_cmp op_notIn_seq gNin_ok (vp_var 2) (vp_of (ve_gcon c_WIDTHS)))
  (vss_one (vs_raise C x_OutOfRange))
  vss_nil)
  (vss_cons (vs_put 0 FT (ve_var 1))
  (vss_cons (vs_put 0 FT (ve_var 2))
  (vss_cons (vs_put 0 FT (ve_sub (vp_of (ve_shl (vp_of ve_int) (vp_var 2))) (vp_of ve_int)))
  (vss_cons (vs_put 0 FT (ve_fdiv (vp_of (ve_mul (vp_of ve_int) (vp_of (ve_fld FT (ve_var 1))))) (vp_var 2)))
  (vss_cons (vs_put 0 FT (ve_call F_checks_of (hr.mono (by decide)) C.tk (va_cons (ve_mul (vp_of (ve_fldB 0 FT)) (vp_of (ve_fldB 0 FT))) (va_cons (ve_var 2) va_nil))))
  (vss_cons (vs_put 0 FT (ve_sub (vp_of ve_int) (vp_of (ve_mul (vp_of (ve_fldB 0 FT)) (vp_var 2)))))
  (vss_cons (vs_put 0 FT (ve_add (vp_of (ve_fldB 0 FT)) (vp_of (ve_fldB 0 FT))))
  (vss_one (vs_put 0 FT (ve_methB0 M_OneTime__code (hr.mono (by decide)) C.tk)))))))))))⟩
theorem sc_one_time_of : FnScope ["code", "core", "rest", "size", "width", "kind"] ["code"] (defScope s_one_time_of) := ⟨rfl, rfl, rfl, by decide +kernel, rfl, by decide +kernel, by decide +kernel⟩
theorem ok_one_time_of {f : Addr} {fd : FuncData} (F : Fun K "one_time_of" "one_time_of" s_one_time_of f fd) (m_divmod : mg "divmod" = none) (c_FIRST_coefficients : ∃ t, mg "FIRST_coefficients" = some (.int 3758096384 t)) (c_WIDTHS : ∃ a, mg "WIDTHS" = some (.ref a) ∧ ∀ B, Rep K c B k_WIDTHS (.ref a)) (x_Malformed : ExcAt K c mg "Malformed" 2) (FT : FldTab K c okF) (K_OneTime : MakeAt P w K c mg base "OneTime" 4 2 3 (spI K c 4 3 f_OneTime_init)) (K_Suite : MakeAt P w K c mg base "Suite" 3 2 3 (spI K c 3 3 f_Suite_init)) : FnOk P w K mg base (L2.CX P w) 4 f fd ["code"] (spV K c 1 f_one_time_of) :=
  fn_ok 6 1 g_one_time_of F sc_one_time_of rfl rfl (by decide) fun cdv A outer s H E hr C => ⟨_, (vss_cons (vs_if (vt_chain op_le op_le gI0_bl gI0_bl (vp_of ve_int) (vp_var 0) (vp_of ve_int))
  (vss_one (vs_ret (ve_make K_OneTime (hr.mono (by decide)) C.tk (va_cons (ve_make K_Suite (hr.mono (by decide)) C.tk (va_cons ve_int (va_cons ve_int va_nil))) (va_cons (ve_ix ix_seq gIx_ok (vp_of (ve_gcon c_WIDTHS)) (vp_of (ve_sub (vp_var 0) (vp_of ve_int)))) va_nil)))))
  vss_nil)
  (vss_cons (vs_unp (ve_divmod m_divmod (vap_cons (vp_of (ve_sub (vp_var 0) (vp_of (ve_gint c_FIRST_coefficients)))) (vap_cons (vp_of ve_int) vap_nil))) (vg_seq K rfl rfl (vgs_cons (vg_name 1 C.nd) (vgs_cons (vg_name 2 C.nd) vgs_nil))))
  (vss_cons (vs_unp (ve_divmod m_divmod (vap_cons (vp_var 2) (vap_cons (vp_of ve_int) vap_nil))) (vg_seq K rfl rfl (vgs_cons (vg_name 3 C.nd) (vgs_cons (vg_name 4 C.nd) vgs_nil))))
  (vss_cons (vs_if (vw_pt (vw_or (vt_cmp op_notIn_seq gNin_ok (vp_var 1) (vp_of (ve_tup (va_cons ve_int (va_cons ve_int va_nil))))) (vw_or (vt_not (vt_chain op_le op_le gI0_bl gI0_bl (vp_of ve_int) (vp_var 3) (vp_of ve_int))) (vw_or1 (vt_cmp op_notIn_seq gNin_ok (vp_var 4) (vp_of (ve_gcon c_WIDTHS)))))))
  (vss_one (vs_raise C x_Malformed))
  vss_nil)
  (vss_cons (vs_set 5 C.nd (ve_make K_OneTime (hr.mono (by decide)) C.tk (va_cons (ve_make K_Suite (hr.mono (by decide)) C.tk (va_cons (ve_var 1) (va_cons (ve_var 3) va_nil))) (va_cons (ve_var 4) va_nil))))
  (vss_cons (vs_if (vt_cmp (op_neD hr.units) gNe_ok (vp_of (ve_fld FT (ve_var 5))) (vp_var 0))
  (vss_one (vs_raise C x_Malformed))
  vss_nil)
  (vss_one (vs_ret (ve_var 5)))))))))⟩
theorem sc_TreeKind_init : FnScope ["self", "one_time", "height"] ["self", "one_time", "height"] (defScope s_TreeKind_init) := ⟨rfl, rfl, rfl, by decide +kernel, rfl, by decide +kernel, by decide +kernel⟩
theorem ok_TreeKind_init {f : Addr} {fd : FuncData} (F : Fun K "__init__" "TreeKind.__init__" s_TreeKind_init f fd) (x_OutOfRange : ExcAt K c mg "OutOfRange" 1) (FT : FldTab K c okF) (M_TreeKind__code : MethAt P w K c mg base 5 "_code" 1 1 (spV K c 1 f_TreeKind__code)) : FnOk P w K mg base (L2.CX P w) 2 f fd ["self", "one_time", "height"] (spI K c 5 3 f_TreeKind_init) :=
  fn_okB 3 3 5 g_TreeKind_init F sc_TreeKind_init rfl rfl (by decide) fun me md =>
  have x_OutOfRange := x_OutOfRange.at me md
  have FT := FT.at me md
  have M_TreeKind__code := M_TreeKind__code.atV me md
  fun cdv A outer s H E hr C => ⟨_, (vss_cons (vs_if (vt_not (vt_chain op_le op_le gI0_bl gI0_bl (vp_of ve_int) (vp_var 2) (vp_of ve_int)))
  (vss_one (vs_raise C x_OutOfRange))
  vss_nil)
  (vss_cons (vs_put 0 FT (ve_var 1))
  (vss_cons (vs_put 0 FT (ve_fld FT (ve_var 1)))
  (vss_cons (vs_put 0 FT (ve_var 2))
  (vss_cons (vs_put 0 FT (ve_shl (vp_of ve_int) (vp_var 2)))
  (vss_one (vs_put 0 FT (ve_methB0 M_TreeKind__code (hr.mono (by decide)) C.tk))))))))⟩
theorem sc_tree_kind_of : FnScope ["code", "once_code", "one_time", "height", "kind"] ["code", "once_code"] (defScope s_tree_kind_of) := ⟨rfl, rfl, rfl, by decide +kernel, rfl, by decide +kernel, by decide +kernel⟩
theorem ok_tree_kind_of {f : Addr} {fd : FuncData} (F : Fun K "tree_kind_of" "tree_kind_of" s_tree_kind_of f fd) (c_FIRST_lms : ∃ t, mg "FIRST_lms" = some (.int 3892314112 t)) (c_PUBLISHED : ∃ a, mg "PUBLISHED" = some (.ref a) ∧ ∀ B, Rep K c B k_PUBLISHED (.ref a)) (x_Malformed : ExcAt K c mg "Malformed" 2) (FT : FldTab K c okF) (F_one_time_of : DefAt P w K mg base "one_time_of" 4 1 (spV K c 1 f_one_time_of)) (K_TreeKind : MakeAt P w K c mg base "TreeKind" 5 2 3 (spI K c 5 3 f_TreeKind_init)) : FnOk P w K mg base (L2.CX P w) 5 f fd ["code", "once_code"] (spV K c 2 f_tree_kind_of) :=
  fn_ok 5 2 g_tree_kind_of F sc_tree_kind_of rfl rfl (by decide) fun cdv A outer s H E hr C => ⟨_, (vss_cons (vs_set 2 C.nd (ve_call F_one_time_of (hr.mono (by decide)) C.tk (va_cons (ve_var 1) va_nil)))
  (vss_cons (vs_set 3 C.nd (ve_sub (vp_of (ve_sub (vp_of (ve_sub (vp_var 0) (vp_of (ve_gint c_FIRST_lms)))) (vp_of (ve_mul (vp_of ve_int) (vp_of (ve_fld FT (ve_fld FT (ve_var 2)))))))) (vp_of (ve_mul (vp_of ve_int) (vp_of (ve_fld FT (ve_fld FT (ve_var 2))))))))
  (vss_cons (vs_if (vt_chain op_le op_le gI0_bl gI0_bl (vp_of ve_int) (vp_var 0) (vp_of ve_int))
  (vss_one (vs_set 3 C.nd (ve_ix ix_seq gIx_ok (vp_of (ve_gcon c_PUBLISHED)) (vp_of (ve_sub (vp_var 0) (vp_of ve_int))))))
  vss_nil)
  (vss_cons (vs_if (vt_not (vt_chain op_le op_le gI0_bl gI0_bl (vp_of ve_int) (vp_var 3) (vp_of ve_int)))
  (vss_one (vs_raise C x_Malformed))
  vss_nil)
  (vss_cons (vs_set 4 C.nd (ve_make K_TreeKind (hr.mono (by decide)) C.tk (va_cons (ve_var 2) (va_cons (ve_var 3) va_nil))))
  (vss_cons (vs_if (vt_cmp (op_neD hr.units) gNe_ok (vp_of (ve_fld FT (ve_var 4))) (vp_var 0))
  (vss_one (vs_raise C x_Malformed))
  vss_nil)
  (vss_one (vs_ret (ve_var 4)))))))))⟩
theorem sc__law_read : FnScope ["code", "core", "size", "width", "there", "kind", "e", "h"] ["code", "core", "size", "width"] (defScope s__law_read) := ⟨rfl, rfl, rfl, by decide +kernel, rfl, by decide +kernel, by decide +kernel⟩
theorem ok__law_read {f : Addr} {fd : FuncData} (F : Fun K "_law_read" "_law_read" s__law_read f fd) (m_isinstance : mg "isinstance" = none) (m_len : mg "len" = none) (m_range : mg "range" = none) (y_Malformed : mg "Malformed" = some (.ref (c.cl 2))) (y_OutOfRange : mg "OutOfRange" = some (.ref (c.cl 1))) (y_SealError : mg "SealError" = some (.ref (c.cl 0))) (IS : IsTab K c isub) (FT : FldTab K c okF) (F__law_code : DefAt P w K mg base "_law_code" 1 3 (spV K c 3 f__law_code)) (F__law_fields : DefAt P w K mg base "_law_fields" 2 5 (spV K c 5 f__law_fields)) (F__law_once : DefAt P w K mg base "_law_once" 1 3 (spV K c 3 f__law_once)) (F_tree_kind_of : DefAt P w K mg base "tree_kind_of" 5 2 (spV K c 2 f_tree_kind_of)) : FnOk P w K mg base (L2.CX P w) 6 f fd ["code", "core", "size", "width"] (spV K c 4 f__law_read) :=
  fn_ok 8 4 g__law_read F sc__law_read rfl rfl (by decide) fun cdv A outer s H E hr C => ⟨_, (vss_cons (vs_set 4 C.nd (ve_cmp op_gt gI0_bl (vp_of (ve_len m_len (vap_cons (vp_of (vn_ve (vn_lc [("h", 7)] rfl C.nd (vip_of (vi_range1 m_range (va_cons ve_int va_nil))) (blkOk_by (show blkC ["code", "core", "size", "width", "there", "kind", "e", "h"] (defScope s__law_read) _ _ = true from by decide +kernel)) (fun _ _ _ _ _ => (vg_name 7 C.nd)) (fun _ _ _ _ _ => (vts_one (vt_cmp (op_eqD hr.units) gEq_ok (vp_of (ve_call F__law_code (hr.mono (by decide)) takes0 (va_cons (ve_var 1) (va_cons (ve_var 2) (va_cons (ve_var 7) va_nil))))) (vp_var 0)))) (fun _ _ _ _ _ => (ve_var 7))))) vap_nil))) (vp_of ve_int)))
  (vss_cons (vs_tryAs 6 (m := (fun n => isub n 0)) C y_SealError (fun n b h => IS.e n _ b h)
  (fun W' pn xe C => (vss_one (vs_set 5 C.nd (ve_call F_tree_kind_of (hr.mono (by decide)) C.tk (va_cons (ve_var 0) (va_cons (ve_call F__law_once (hr.mono (by decide)) C.tk (va_cons (ve_var 1) (va_cons (ve_var 2) (va_cons (ve_var 3) va_nil)))) va_nil))))))
  (fun a oe n pn hmn hz hf => (vss_one (vs_ret (ve_and (ve_isEC C a pn (IS.x _ _ _ hmn) IS hz hf m_isinstance (vap_cons (vp_var 6) (vap_cons (vp_of (ve_cls y_Malformed)) vap_nil))) (ve_and (ve_not (ve_isEC C a pn (IS.x _ _ _ hmn) IS hz hf m_isinstance (vap_cons (vp_var 6) (vap_cons (vp_of (ve_cls y_OutOfRange)) vap_nil)))) (ve_one (ve_not (ve_var 4)))))))))
  (vss_one (vs_ret (ve_and (ve_var 4) (ve_and (ve_cmp (op_eqD hr.units) gEq_ok (vp_of (ve_fld FT (ve_var 5))) (vp_var 0)) (ve_one (ve_call F__law_fields (hr.mono (by decide)) C.tk (va_cons (ve_var 5) (va_cons (ve_var 1) (va_cons (ve_var 2) (va_cons (ve_var 3) (va_cons (ve_fld FT (ve_var 5)) va_nil)))))))))))))⟩
theorem sc__law_refused : FnScope ["kind", "height", "e"] ["kind", "height"] (defScope s__law_refused) := ⟨rfl, rfl, rfl, by decide +kernel, rfl, by decide +kernel, by decide +kernel⟩
theorem ok__law_refused {f : Addr} {fd : FuncData} (F : Fun K "_law_refused" "_law_refused" s__law_refused f fd) (m_isinstance : mg "isinstance" = none) (y_Malformed : mg "Malformed" = some (.ref (c.cl 2))) (y_OutOfRange : mg "OutOfRange" = some (.ref (c.cl 1))) (y_SealError : mg "SealError" = some (.ref (c.cl 0))) (IS : IsTab K c isub) (K_TreeKind : MakeAt P w K c mg base "TreeKind" 5 2 3 (spI K c 5 3 f_TreeKind_init)) : FnOk P w K mg base (L2.CX P w) 4 f fd ["kind", "height"] (spV K c 2 f__law_refused) :=
  fn_ok 3 2 g__law_refused F sc__law_refused rfl rfl (by decide) fun cdv A outer s H E hr C => ⟨_, (vss_cons (vs_tryAs 2 (m := (fun n => isub n 0)) C y_SealError (fun n b h => IS.e n _ b h)
  (fun W' pn xe C => (vss_one (vs_expr (ve_make K_TreeKind (hr.mono (by decide)) C.tk (va_cons (ve_var 0) (va_cons (ve_var 1) va_nil))))))
  (fun a oe n pn hmn hz hf => (vss_one (vs_ret (ve_and (ve_isEC C a pn (IS.x _ _ _ hmn) IS hz hf m_isinstance (vap_cons (vp_var 2) (vap_cons (vp_of (ve_cls y_OutOfRange)) vap_nil))) (ve_one (ve_not (ve_isEC C a pn (IS.x _ _ _ hmn) IS hz hf m_isinstance (vap_cons (vp_var 2) (vap_cons (vp_of (ve_cls y_Malformed)) vap_nil))))))))))
  (vss_one (vs_ret ve_bl)))⟩
theorem sc__law_no_once : FnScope ["code", "once", "e"] ["code", "once"] (defScope s__law_no_once) := ⟨rfl, rfl, rfl, by decide +kernel, rfl, by decide +kernel, by decide +kernel⟩
theorem ok__law_no_once {f : Addr} {fd : FuncData} (F : Fun K "_law_no_once" "_law_no_once" s__law_no_once f fd) (m_isinstance : mg "isinstance" = none) (y_Malformed : mg "Malformed" = some (.ref (c.cl 2))) (y_OutOfRange : mg "OutOfRange" = some (.ref (c.cl 1))) (y_SealError : mg "SealError" = some (.ref (c.cl 0))) (IS : IsTab K c isub) (F_tree_kind_of : DefAt P w K mg base "tree_kind_of" 5 2 (spV K c 2 f_tree_kind_of)) : FnOk P w K mg base (L2.CX P w) 6 f fd ["code", "once"] (spV K c 2 f__law_no_once) :=
  fn_ok 3 2 g__law_no_once F sc__law_no_once rfl rfl (by decide) fun cdv A outer s H E hr C => ⟨_, (vss_cons (vs_tryAs 2 (m := (fun n => isub n 0)) C y_SealError (fun n b h => IS.e n _ b h)
  (fun W' pn xe C => (vss_one (vs_expr (ve_call F_tree_kind_of (hr.mono (by decide)) C.tk (va_cons (ve_var 0) (va_cons (ve_var 1) va_nil))))))
  (fun a oe n pn hmn hz hf => (vss_one (vs_ret (ve_and (ve_isEC C a pn (IS.x _ _ _ hmn) IS hz hf m_isinstance (vap_cons (vp_var 2) (vap_cons (vp_of (ve_cls y_Malformed)) vap_nil))) (ve_one (ve_not (ve_isEC C a pn (IS.x _ _ _ hmn) IS hz hf m_isinstance (vap_cons (vp_var 2) (vap_cons (vp_of (ve_cls y_OutOfRange)) vap_nil))))))))))
  (vss_one (vs_ret ve_bl)))⟩
theorem sc_law : FnScope ["script", "cell", "core", "size", "width", "height", "one_time", "kind", "bad", "other", "near", "code"] ["script"] (defScope s_law) := ⟨rfl, rfl, rfl, by decide +kernel, rfl, by decide +kernel, by decide +kernel⟩
theorem ok_law {f : Addr} {fd : FuncData} (F : Fun K "law" "law" s_law f fd) (m_abs : mg "abs" = none) (m_int : mg "int" = none) (FT : FldTab K c okF) (F__law_cell : DefAt P w K mg base "_law_cell" 1 2 (spV K c 2 f__law_cell)) (F__law_fields : DefAt P w K mg base "_law_fields" 2 5 (spV K c 5 f__law_fields)) (F__law_no_once : DefAt P w K mg base "_law_no_once" 6 2 (spV K c 2 f__law_no_once)) (F__law_read : DefAt P w K mg base "_law_read" 6 4 (spV K c 4 f__law_read)) (F__law_refused : DefAt P w K mg base "_law_refused" 4 2 (spV K c 2 f__law_refused)) (F_tree_kind_of : DefAt P w K mg base "tree_kind_of" 5 2 (spV K c 2 f_tree_kind_of)) (K_OneTime : MakeAt P w K c mg base "OneTime" 4 2 3 (spI K c 4 3 f_OneTime_init)) (K_Suite : MakeAt P w K c mg base "Suite" 3 2 3 (spI K c 3 3 f_Suite_init)) (K_TreeKind : MakeAt P w K c mg base "TreeKind" 5 2 3 (spI K c 5 3 f_TreeKind_init)) : FnOk P w K mg base (L2.CX P w) 7 f fd ["script"] (spV K c 1 f_law) :=
  fn_ok 12 1 g_law F sc_law rfl rfl (by decide) fun cdv A outer s H E hr C => ⟨_, (vss_cons (vs_set 1 C.nd (ve_abs m_abs (vap_cons (vp_of (ve_call F__law_cell (hr.mono (by decide)) C.tk (va_cons (ve_var 0) (va_cons ve_int va_nil)))) vap_nil)))
  (vss_cons (vs_set 2 C.nd (ve_mod (vp_var 1) (vp_of ve_int)))
  (vss_cons (vs_set 3 C.nd (ve_ix ix_seq gIx_ok (vp_of (vn_ve (vn_lst (va_cons (ve_add (vp_of ve_int) (vp_of (ve_mod (vp_of (ve_fdiv (vp_var 1) (vp_of ve_int))) (vp_of ve_int)))) (va_cons ve_int va_nil))))) (vp_of (ve_intc m_int (vap_cons (vp_of (ve_cmp (op_eqD hr.units) gEq_ok (vp_of (ve_mod (vp_of (ve_fdiv (vp_var 1) (vp_of ve_int))) (vp_of ve_int))) (vp_of ve_int))) vap_nil)))))
  (vss_cons (vs_set 4 C.nd (ve_ix ix_seq gIx_ok (vp_of (vn_ve (vn_lst (va_cons ve_int (va_cons ve_int (va_cons ve_int (va_cons ve_int va_nil))))))) (vp_of (ve_mod (vp_of (ve_fdiv (vp_var 1) (vp_of ve_int))) (vp_of ve_int)))))
  (vss_cons (vs_set 5 C.nd (ve_ix ix_seq gIx_ok (vp_of (vn_ve (vn_lst (va_cons (ve_mod (vp_of (ve_fdiv (vp_var 1) (vp_of ve_int))) (vp_of ve_int)) (va_cons (ve_mul (vp_of ve_int) (vp_of (ve_mod (vp_of (ve_fdiv (vp_var 1) (vp_of ve_int))) (vp_of ve_int)))) va_nil))))) (vp_of (ve_mod (vp_of (ve_fdiv (vp_var 1) (vp_of ve_int))) (vp_of ve_int)))))
  (vss_cons (vs_set 6 C.nd (ve_make K_OneTime (hr.mono (by decide)) C.tk (va_cons (ve_make K_Suite (hr.mono (by decide)) C.tk (va_cons (ve_var 2) (va_cons (ve_var 3) va_nil))) (va_cons (ve_var 4) va_nil))))
  (vss_cons (vs_set 7 C.nd (ve_make K_TreeKind (hr.mono (by decide)) C.tk (va_cons (ve_var 6) (va_cons (ve_var 5) va_nil))))
  (vss_cons (vs_if (vt_not (vt_truth (vp_of (ve_call F__law_fields (hr.mono (by decide)) C.tk (va_cons (ve_var 7) (va_cons (ve_var 2) (va_cons (ve_var 3) (va_cons (ve_var 4) (va_cons (ve_var 5) va_nil)))))))))
  (vss_one (vs_ret ve_bl))
  vss_nil)
  (vss_cons (vs_if (vt_not (vt_truth (vp_of (ve_call F__law_fields (hr.mono (by decide)) C.tk (va_cons (ve_call F_tree_kind_of (hr.mono (by decide)) C.tk (va_cons (ve_fld FT (ve_var 7)) (va_cons (ve_fld FT (ve_var 6)) va_nil))) (va_cons (ve_var 2) (va_cons (ve_var 3) (va_cons (ve_var 4) (va_cons (ve_var 5) va_nil)))))))))
  (vss_one (vs_ret ve_bl))
  vss_nil)
  (vss_cons (vs_for C (vi_seq (vn_ve (vn_lst (va_cons (ve_un un_neg gNeg_ok (vp_of ve_int)) (va_cons ve_int (va_cons (ve_add (vp_of ve_int) (vp_of (ve_mod (vp_var 1) (vp_of ve_int)))) (va_cons (ve_sub (vp_of (ve_un un_neg gNeg_ok (vp_of ve_int))) (vp_of (ve_mod (vp_var 1) (vp_of ve_int)))) va_nil))))))) (vg_name 8 C.nd)
  (vss_one (vs_if (vt_not (vt_truth (vp_of (ve_call F__law_refused (hr.mono (by decide)) C.tk (va_cons (ve_var 6) (va_cons (ve_var 8) va_nil))))))
  (vss_one (vs_ret ve_bl))
  vss_nil)))
  (vss_cons (vs_set 9 C.nd (ve_abs m_abs (vap_cons (vp_of (ve_call F__law_cell (hr.mono (by decide)) C.tk (va_cons (ve_var 0) (va_cons ve_int va_nil)))) vap_nil)))
  (vss_cons (vs_set 10 C.nd (ve_add (vp_of (ve_fld FT (ve_var 7))) (vp_of (ve_mul (vp_of (ve_ix ix_seq gIx_ok (vp_of (vn_ve (vn_lst (va_cons ve_int (va_cons ve_int (va_cons ve_int (va_cons (ve_un un_neg gNeg_ok (vp_of ve_int)) (va_cons ve_int (va_cons (ve_un un_neg gNeg_ok (vp_of ve_int)) va_nil))))))))) (vp_of (ve_mod (vp_var 9) (vp_of ve_int))))) (vp_of (ve_mod (vp_of (ve_fdiv (vp_var 9) (vp_of ve_int))) (vp_of ve_int)))))))
  (vss_cons (vs_for C (vi_seq (vn_ve (vn_lst (va_cons (ve_var 10) (va_cons (ve_mod (vp_var 9) (vp_of ve_int)) (va_cons (ve_var 9) (va_cons (ve_add (vp_of ve_int) (vp_of (ve_mod (vp_var 9) (vp_of ve_int)))) (va_cons (ve_un un_neg gNeg_ok (vp_var 9)) va_nil)))))))) (vg_name 11 C.nd)
  (vss_cons (vs_if (vt_not (vt_truth (vp_of (ve_call F__law_read (hr.mono (by decide)) C.tk (va_cons (ve_var 11) (va_cons (ve_var 2) (va_cons (ve_var 3) (va_cons (ve_var 4) va_nil))))))))
  (vss_one (vs_ret ve_bl))
  vss_nil)
  (vss_one (vs_if (vt_not (vt_truth (vp_of (ve_call F__law_read (hr.mono (by decide)) C.tk (va_cons (ve_var 11) (va_cons (ve_mod (vp_of (ve_fdiv (vp_var 9) (vp_of ve_int))) (vp_of ve_int)) (va_cons (ve_add (vp_of ve_int) (vp_of (ve_mod (vp_of (ve_fdiv (vp_var 9) (vp_of ve_int))) (vp_of ve_int)))) (va_cons (ve_ix ix_seq gIx_ok (vp_of (vn_ve (vn_lst (va_cons ve_int (va_cons ve_int (va_cons ve_int (va_cons ve_int va_nil))))))) (vp_of (ve_mod (vp_of (ve_fdiv (vp_var 9) (vp_of ve_int))) (vp_of ve_int)))) va_nil))))))))
  (vss_one (vs_ret ve_bl))
  vss_nil))))
  (vss_one (vs_ret (ve_and (ve_call F__law_no_once (hr.mono (by decide)) C.tk (va_cons (ve_fld FT (ve_var 7)) (va_cons ve_int va_nil))) (ve_one (ve_call F__law_no_once (hr.mono (by decide)) C.tk (va_cons (ve_fld FT (ve_var 7)) (va_cons (ve_add (vp_of ve_int) (vp_of (ve_mod (vp_var 9) (vp_of ve_int)))) va_nil))))))))))))))))))))⟩
end
end VL
set_option maxRecDepth 100000
set_option maxHeartbeats 1000000
namespace VL
open PySem PySem.Spec PyProof.Rows L2
/-! ### the law's own helpers -/
def cell (ns : List Int) (k : Nat) : Int := (ns[k]?).getD 0
theorem law_cell_ok (ns : List Int) (k : Nat) : f__law_cell [.ro (iL ns), .int k] = .ok (.int (cell ns k)) := by
  unfold f__law_cell g__law_cell
  by_cases h : k < ns.length
  · have e : (iL ns)[k]? = some (.int (cell ns k)) := by
      rw [iL_get, List.getElem?_eq_getElem h]
      unfold cell
      rw [List.getElem?_eq_getElem h]
      rfl
    simp -implicitDefEqProofs only [fnV, fnN, finV, finN, startE, gSeq, gLet, gSet, gSetN, gRet, gRetN, gRetO, gRet0, gDrop, gIf, gNext, gOwn, gFreeze, gFor, gUnp, gPar, gSetIx, gBreak, gCont, dVar, dPeek, dC, dNew, dBin, dBinN, dUn, dBl, dIf, dAnd, dOr, dNot, dAndV, dOrV, dOfB, dNil, dCons, dStar, items_l, dCall, dCallP, dCallPN, rScal_i, rScal_b, rScal_n, rScalL_i, rScalL_N, gErr, gTryAs, gTry, gIsE, clean, dCB, dCBN, dTru, dTup, dLst, dPair, dSl, oNone, oSome, ofO, dChain, chK, dIList, dITup, dRng, dLc, wipeE, R.bind_ok, R.bind_er, R.bind_no, fName, fTup, fSeq, items, gzipU_l, gzipU_c, gzipU_t, dISeq, fCons, fNil, fLst, oTru, gAdd_i, gSub_i, gLt_i, gLe_i, gGt_i, gGe_i, gEq_i, gNe_i, gAnd_i, gOr_i, gXor_i, gLen_l, gLen_r, gLen_t, gLen_c, gIsi_e, tyD, kb_int_int, kb_int_bool, kb_int_list, kb_int_tuple, kb_bool_int, kb_bool_bool, kb_bool_list, kb_list_list, kb_list_int, kb_list_bool, kb_list_tuple, kb_tuple_tuple, kb_tuple_list, kb_tuple_int, kb_str_str, kb_str_int, kb_str_list, kb_non_list, kb_non_int, gList_l, gList_r, gList_t, gList_c, gzip_l, genum_l, genumU_l, genumU_c, genumU_t, gInt_i, gInt_b, gAbs_i, List.getElem?_cons_zero, List.getElem?_cons_succ, List.set_cons_zero, List.set_cons_succ, List.map_cons, List.map_nil, List.length_cons, List.length_nil, iL_len, Nat.reduceAdd, Nat.reduceSub, List.replicate_succ, List.replicate_zero, List.cons_append, List.nil_append, Nat.zero_add, Option.bind_some, Option.map_some, if_true, if_false, Bool.false_eq_true, Bool.not_true, Bool.not_false, eq_self, reduceCtorEq, Nat.sub_self, List.append_nil, gIx_r (xs := iL ns) (i := (k : Int)) (by omega) (by rw [iL_len]; omega), Int.toNat_natCast, e, (by omega : (k : Int) < ns.length), decide_true]
  · have e : cell ns k = 0 := by
      unfold cell
      rw [List.getElem?_eq_none_iff.mpr (by omega)]
      rfl
    have h2 : decide ((k : Int) < (ns.length : Int)) = false := decide_eq_false (by omega)
    simp -implicitDefEqProofs only [fnV, fnN, finV, finN, startE, gSeq, gLet, gSet, gSetN, gRet, gRetN, gRetO, gRet0, gDrop, gIf, gNext, gOwn, gFreeze, gFor, gUnp, gPar, gSetIx, gBreak, gCont, dVar, dPeek, dC, dNew, dBin, dBinN, dUn, dBl, dIf, dAnd, dOr, dNot, dAndV, dOrV, dOfB, dNil, dCons, dStar, items_l, dCall, dCallP, dCallPN, rScal_i, rScal_b, rScal_n, rScalL_i, rScalL_N, gErr, gTryAs, gTry, gIsE, clean, dCB, dCBN, dTru, dTup, dLst, dPair, dSl, oNone, oSome, ofO, dChain, chK, dIList, dITup, dRng, dLc, wipeE, R.bind_ok, R.bind_er, R.bind_no, fName, fTup, fSeq, items, gzipU_l, gzipU_c, gzipU_t, dISeq, fCons, fNil, fLst, oTru, gAdd_i, gSub_i, gLt_i, gLe_i, gGt_i, gGe_i, gEq_i, gNe_i, gAnd_i, gOr_i, gXor_i, gLen_l, gLen_r, gLen_t, gLen_c, gIsi_e, tyD, kb_int_int, kb_int_bool, kb_int_list, kb_int_tuple, kb_bool_int, kb_bool_bool, kb_bool_list, kb_list_list, kb_list_int, kb_list_bool, kb_list_tuple, kb_tuple_tuple, kb_tuple_list, kb_tuple_int, kb_str_str, kb_str_int, kb_str_list, kb_non_list, kb_non_int, gList_l, gList_r, gList_t, gList_c, gzip_l, genum_l, genumU_l, genumU_c, genumU_t, gInt_i, gInt_b, gAbs_i, List.getElem?_cons_zero, List.getElem?_cons_succ, List.set_cons_zero, List.set_cons_succ, List.map_cons, List.map_nil, List.length_cons, List.length_nil, iL_len, Nat.reduceAdd, Nat.reduceSub, List.replicate_succ, List.replicate_zero, List.cons_append, List.nil_append, Nat.zero_add, Option.bind_some, Option.map_some, if_true, if_false, Bool.false_eq_true, Bool.not_true, Bool.not_false, eq_self, reduceCtorEq, Nat.sub_self, List.append_nil, h2, e]
end VL
set_option maxRecDepth 100000
set_option maxHeartbeats 1000000
namespace VL
open PySem PySem.Spec PyProof.Rows L2
theorem toNat_mod (c : Int) {k : Int} (hk : 0 < k) : ∃ n : Nat, c % k = n ∧ (n : Int) < k := ⟨(c % k).toNat, by have := Int.emod_nonneg c (show k ≠ 0 by omega); omega, by have := Int.emod_nonneg c (show k ≠ 0 by omega); have := Int.emod_lt_of_pos c hk; omega⟩
/-! ### the kinds, closed -/
def wordS (core : Nat) : Str := if core = 0 then "sha" else "small"
def nameS (core size : Nat) : Str := wordS core ++ ("-" : Str) ++ (toString (size : Int) : Str)
def suiteF (core size : Nat) : List (Str × D) := [("core", .int core), ("size", .int size), ("name", .str (nameS core size))]
def onceI (core size j : Nat) : Nat := if core = 0 ∧ size = 32 then j + 1 else 3758096384 + 65536 * core + 256 * size + 2 ^ j
def spec (core size h : Nat) : Bool := core == 0 && size == 32 && (h == 5 || h == 10 || h == 15 || h == 20 || h == 25)
def codeI (core size h : Nat) : Nat := if spec core size h = true then 4 + h / 5 else 3892314112 + 65536 * core + 256 * size + h
def oneF (core size j : Nat) : List (Str × D) := match f_OneTime_init [.obj 3 (suiteF core size), .int ((2 ^ j : Nat) : Int)] with
  | .ok fs => fs
  | _ => []
def treeF (core size j h : Nat) : List (Str × D) := [("one_time", .obj 4 (oneF core size j)), ("suite", .obj 3 (suiteF core size)), ("height", .int (h : Nat)), ("places", .int ((2 ^ h : Nat) : Int)), ("code", .int (codeI core size h : Nat))]
def isF (r : R (List (Str × D))) (fs : List (Str × D)) : Bool := match r with
  | .ok x => beqF x fs
  | _ => false
theorem isF_ok {r : R (List (Str × D))} {fs : List (Str × D)} (h : isF r fs = true) : r = .ok fs := by
  cases r with
  | ok x => exact congrArg _ (beqF_ok h)
  | _ => cases h
def isE (r : R D) (n : Nat) : Bool := match r with
  | .er m => m == n
  | _ => false
theorem isE_ok {r : R D} {n : Nat} (h : isE r n = true) : r = .er n := by
  cases r with
  | er m => exact congrArg _ (beq_iff_eq.mp h)
  | _ => cases h
def all3 (p : Nat → Nat → Nat → Bool) : Bool := (List.range 2).all fun core => (List.range 33).all fun k => k == 0 || (List.range 4).all fun j => p core k j
theorem all3_ok {p : Nat → Nat → Nat → Bool} (h : all3 p = true) {core size j : Nat} (hc : core < 2) (h1 : 1 ≤ size) (h2 : size ≤ 32) (hj : j < 4) : p core size j = true := by
  have a := List.all_eq_true.mp h core (List.mem_range.mpr hc)
  have b := List.all_eq_true.mp a size (List.mem_range.mpr (by omega))
  rcases Bool.or_eq_true_iff.mp b with e | e
  · rw [beq_iff_eq] at e; omega
  · exact List.all_eq_true.mp e j (List.mem_range.mpr hj)
theorem all26 {p : Nat → Bool} (h : (List.range 26).all p = true) {k : Nat} (hk : k < 26) : p k = true := List.all_eq_true.mp h k (List.mem_range.mpr hk)
def lookS (o : Option D) (y : D) : Bool := isS o y
theorem one_chk : (all3 fun c s j => isF (f_Suite_init [.int (c : Nat), .int (s : Nat)]) (suiteF c s) && isF (f_OneTime_init [.obj 3 (suiteF c s), .int ((2 ^ j : Nat) : Int)]) (oneF c s j) &&
    isS ((oneF c s j).lookup ("suite" : Str)) (.obj 3 (suiteF c s)) && isS ((oneF c s j).lookup ("code" : Str)) (.int (onceI c s j : Nat)) && isS ((oneF c s j).lookup ("width" : Str)) (.int ((2 ^ j : Nat) : Int)) && isD (f_one_time_of [.int (onceI c s j : Nat)]) (.obj 4 (oneF c s j)) &&
    isD (f__law_once [.int (c : Nat), .int (s : Nat), .int ((2 ^ j : Nat) : Int)]) (.int (onceI c s j : Nat))) = true := by decide +kernel
theorem pub_chk : ((List.range 26).all fun h => isS (gIn (.int (h : Nat)) k_PUBLISHED) (.bl (h == 5 || h == 10 || h == 15 || h == 20 || h == 25)) && isS (gIn (.int (h : Nat)) (.tup [.int 5, .int 10, .int 15, .int 20, .int 25])) (.bl (h == 5 || h == 10 || h == 15 || h == 20 || h == 25)) &&
    (!(h == 5 || h == 10 || h == 15 || h == 20 || h == 25) || idxD kl_PUBLISHED (.int (h : Nat)) == some (h / 5 - 1))) = true := by decide +kernel
theorem no_chk : (isE (f_one_time_of [.int 0]) 2 && (List.range 256).all fun t => isE (f_one_time_of [.int ((3758096384 + t : Nat) : Int)]) 2) = true := by decide +kernel
structure One (c s j : Nat) : Prop where
  su : f_Suite_init [.int (c : Nat), .int (s : Nat)] = .ok (suiteF c s)
  on : f_OneTime_init [.obj 3 (suiteF c s), .int ((2 ^ j : Nat) : Int)] = .ok (oneF c s j)
  l1 : (oneF c s j).lookup ("suite" : Str) = some (.obj 3 (suiteF c s))
  l2 : (oneF c s j).lookup ("code" : Str) = some (.int (onceI c s j : Nat))
  l3 : (oneF c s j).lookup ("width" : Str) = some (.int ((2 ^ j : Nat) : Int))
  o1 : f_one_time_of [.int (onceI c s j : Nat)] = .ok (.obj 4 (oneF c s j))
  o2 : f__law_once [.int (c : Nat), .int (s : Nat), .int ((2 ^ j : Nat) : Int)] = .ok (.int (onceI c s j : Nat))
theorem one_ok {c s j : Nat} (hc : c < 2) (h1 : 1 ≤ s) (h2 : s ≤ 32) (hj : j < 4) : One c s j := by
  have h := all3_ok one_chk hc h1 h2 hj
  simp only [Bool.and_eq_true] at h
  obtain ⟨⟨⟨⟨⟨⟨a1, a2⟩, a3⟩, a4⟩, a5⟩, a6⟩, a7⟩ := h
  exact ⟨isF_ok a1, isF_ok a2, isS_ok a3, isS_ok a4, isS_ok a5, isD_ok a6, isD_ok a7⟩
def inP (h : Nat) : Bool := h == 5 || h == 10 || h == 15 || h == 20 || h == 25
theorem pub_ok {h : Nat} (hh : h < 26) : gIn (.int (h : Nat)) k_PUBLISHED = some (.bl (inP h)) ∧ gIn (.int (h : Nat)) (.tup [.int 5, .int 10, .int 15, .int 20, .int 25]) = some (.bl (inP h)) ∧ (inP h = true → idxD kl_PUBLISHED (.int (h : Nat)) = some (h / 5 - 1)) := by
  have z := all26 pub_chk hh
  simp only [Bool.and_eq_true] at z
  obtain ⟨⟨a1, a2⟩, a3⟩ := z
  refine ⟨isS_ok a1, isS_ok a2, fun q => ?_⟩
  rcases Bool.or_eq_true_iff.mp a3 with w | w
  · rw [show (h == 5 || h == 10 || h == 15 || h == 20 || h == 25) = true from q] at w
    cases w
  · exact beq_iff_eq.mp w
end VL
set_option maxRecDepth 100000
set_option maxHeartbeats 1000000
namespace VL
open PySem PySem.Spec PyProof.Rows L2
/-! ### the kinds of trees -/
theorem gPut_ok {m : Nat → Str → Bool} {i C : Nat} {x : Str} {f : En → R D} {ρ : En} {d : D} {fs : List (Str × D)} (hf : f ρ = .ok d) (h0 : ρ[i]? = some (.b C fs)) (hm : m C x = true) (hl : fs.length < 1000) : gPut m i x f ρ = .nx (ρ.set i (.b C (putD x d fs))) := by
  unfold gPut gLet
  rw [hf]
  dsimp only
  rw [h0]
  dsimp only
  rw [if_pos ⟨hm, hl⟩]
theorem fnB_nx {n C : Nat} {g : En → Out} {ds : List D} {ρ : En} {fs : List (Str × D)} (h : g (startB n C ds) = .nx ρ) (h2 : ρ[(0 : Nat)]? = some (.b C fs)) : fnB n C g ds = .ok fs := by
  unfold fnB finB
  rw [h]
  dsimp only
  unfold at0
  rw [h2]
  dsimp only
  rw [if_pos rfl]
theorem fnB_er {n C m : Nat} {g : En → Out} {ds : List D} {ρ : En} (h : g (startB n C ds) = .er m ρ) : fnB n C g ds = .er m := by
  unfold fnB finB
  rw [h]
theorem k_core : inT tabF 3 "core" = true := by decide +kernel
theorem k_size : inT tabF 3 "size" = true := by decide +kernel
theorem k_suite4 : inT tabF 4 "suite" = true := by decide +kernel
theorem k_width : inT tabF 4 "width" = true := by decide +kernel
theorem k_code4 : inT tabF 4 "code" = true := by decide +kernel
theorem k_one : inT tabF 5 "one_time" = true := by decide +kernel
theorem k_suite5 : inT tabF 5 "suite" = true := by decide +kernel
theorem k_height : inT tabF 5 "height" = true := by decide +kernel
theorem k_places : inT tabF 5 "places" = true := by decide +kernel
theorem k_code5 : inT tabF 5 "code" = true := by decide +kernel
theorem sF_core (c s : Nat) : (suiteF c s).lookup ("core" : Str) = some (.int c) := rfl
theorem sF_size (c s : Nat) : (suiteF c s).lookup ("size" : Str) = some (.int s) := rfl
theorem spec_iff (c s h : Nat) : spec c s h = true ↔ c = 0 ∧ s = 32 ∧ inP h = true := by
  unfold spec inP
  rw [Bool.and_eq_true, Bool.and_eq_true, beq_iff_eq, beq_iff_eq, and_assoc]
theorem codeI_t {c s h : Nat} (z : spec c s h = true) : codeI c s h = 4 + h / 5 := by unfold codeI; rw [if_pos z]
theorem codeI_f {c s h : Nat} (z : ¬ spec c s h = true) : codeI c s h = 3892314112 + 65536 * c + 256 * s + h := by unfold codeI; rw [if_neg z]
theorem inP_pos {h : Nat} (z : inP h = true) : 1 ≤ h / 5 := by
  unfold inP at z
  simp only [Bool.or_eq_true, beq_iff_eq] at z
  omega
theorem mulK (k c : Nat) (h : k < 1000000) : gMul (.int (k : Nat)) (.int (c : Nat)) = some (.int ((k * c : Nat) : Int)) := by
  rw [gMul_l ⟨by omega, by omega⟩]
  rfl
theorem m65536 (c : Nat) : gMul (.int 65536) (.int (c : Nat)) = some (.int ((65536 * c : Nat) : Int)) := mulK 65536 c (by decide)
theorem m256 (c : Nat) : gMul (.int 256) (.int (c : Nat)) = some (.int ((256 * c : Nat) : Int)) := mulK 256 c (by decide)
theorem sumI (c s h : Nat) : (3892314112 : Int) + ((65536 * c : Nat) : Int) + ((256 * s : Nat) : Int) + (h : Nat) = ((3892314112 + 65536 * c + 256 * s + h : Nat) : Int) := by omega
theorem tree_code {fs : List (Str × D)} {c s h : Nat} (h1 : fs.lookup ("suite" : Str) = some (.obj 3 (suiteF c s))) (h2 : fs.lookup ("height" : Str) = some (.int (h : Nat))) (hh : h < 26) : f_TreeKind__code [.obj 5 fs] = .ok (.int (codeI c s h : Nat)) := by
  obtain ⟨p1, _, p3⟩ := pub_ok hh
  have l1 := sF_core c s
  have l2 := sF_size c s
  generalize suiteF c s = sf at *
  refine fnV_rt ?_
  unfold g_TreeKind__code
  refine (seq_nx (by (simp -implicitDefEqProofs only [fnV, fnN, finV, finN, startE, gSeq, gLet, gSet, gSetN, gRet, gRetN, gRetO, gRet0, gDrop, gIf, gNext, gOwn, gFreeze, gFor, gUnp, gPar, gSetIx, gBreak, gCont, dVar, dPeek, dC, dNew, dBin, dBinN, dUn, dBl, dIf, dAnd, dOr, dNot, dAndV, dOrV, dOfB, dNil, dCons, dStar, items_l, dCall, dCallP, dCallPN, rScal_i, rScal_b, rScal_n, rScalL_i, rScalL_N, gErr, gTryAs, gTry, gIsE, clean, dCB, dCBN, dTru, dTup, dLst, dPair, dSl, oNone, oSome, ofO, dChain, chK, dIList, dITup, dRng, dLc, wipeE, R.bind_ok, R.bind_er, R.bind_no, fName, fTup, fSeq, items, gzipU_l, gzipU_c, gzipU_t, dISeq, fCons, fNil, fLst, oTru, gAdd_i, gSub_i, gLt_i, gLe_i, gGt_i, gGe_i, gEq_i, gNe_i, gAnd_i, gOr_i, gXor_i, gLen_l, gLen_r, gLen_t, gLen_c, gIsi_e, tyD, kb_int_int, kb_int_bool, kb_int_list, kb_int_tuple, kb_bool_int, kb_bool_bool, kb_bool_list, kb_list_list, kb_list_int, kb_list_bool, kb_list_tuple, kb_tuple_tuple, kb_tuple_list, kb_tuple_int, kb_str_str, kb_str_int, kb_str_list, kb_non_list, kb_non_int, gList_l, gList_r, gList_t, gList_c, gzip_l, genum_l, genumU_l, genumU_c, genumU_t, gInt_i, gInt_b, gAbs_i, List.getElem?_cons_zero, List.getElem?_cons_succ, List.set_cons_zero, List.set_cons_succ, List.map_cons, List.map_nil, List.length_cons, List.length_nil, iL_len, Nat.reduceAdd, Nat.reduceSub, List.replicate_succ, List.replicate_zero, List.cons_append, List.nil_append, Nat.zero_add, Option.bind_some, Option.map_some, if_true, if_false, Bool.false_eq_true, Bool.not_true, Bool.not_false, eq_self, reduceCtorEq, Nat.sub_self, List.append_nil, dFld, k_suite5, h1]) <;> rfl)).trans ?_
  by_cases z : spec c s h = true
  · rw [codeI_t z]
    obtain ⟨rfl, rfl, z3⟩ := (spec_iff c s h).mp z
    have hp := inP_pos z3
    have p4 := p3 z3
    have e : (5 : Int) + ((h / 5 - 1 : Nat) : Int) = ((4 + h / 5 : Nat) : Int) := by omega
    rw [z3] at p1
    generalize k_PUBLISHED = kp at *
    generalize kl_PUBLISHED = kl at *
    simp -implicitDefEqProofs only [fnV, fnN, finV, finN, startE, gSeq, gLet, gSet, gSetN, gRet, gRetN, gRetO, gRet0, gDrop, gIf, gNext, gOwn, gFreeze, gFor, gUnp, gPar, gSetIx, gBreak, gCont, dVar, dPeek, dC, dNew, dBin, dBinN, dUn, dBl, dIf, dAnd, dOr, dNot, dAndV, dOrV, dOfB, dNil, dCons, dStar, items_l, dCall, dCallP, dCallPN, rScal_i, rScal_b, rScal_n, rScalL_i, rScalL_N, gErr, gTryAs, gTry, gIsE, clean, dCB, dCBN, dTru, dTup, dLst, dPair, dSl, oNone, oSome, ofO, dChain, chK, dIList, dITup, dRng, dLc, wipeE, R.bind_ok, R.bind_er, R.bind_no, fName, fTup, fSeq, items, gzipU_l, gzipU_c, gzipU_t, dISeq, fCons, fNil, fLst, oTru, gAdd_i, gSub_i, gLt_i, gLe_i, gGt_i, gGe_i, gEq_i, gNe_i, gAnd_i, gOr_i, gXor_i, gLen_l, gLen_r, gLen_t, gLen_c, gIsi_e, tyD, kb_int_int, kb_int_bool, kb_int_list, kb_int_tuple, kb_bool_int, kb_bool_bool, kb_bool_list, kb_list_list, kb_list_int, kb_list_bool, kb_list_tuple, kb_tuple_tuple, kb_tuple_list, kb_tuple_int, kb_str_str, kb_str_int, kb_str_list, kb_non_list, kb_non_int, gList_l, gList_r, gList_t, gList_c, gzip_l, genum_l, genumU_l, genumU_c, genumU_t, gInt_i, gInt_b, gAbs_i, List.getElem?_cons_zero, List.getElem?_cons_succ, List.set_cons_zero, List.set_cons_succ, List.map_cons, List.map_nil, List.length_cons, List.length_nil, iL_len, Nat.reduceAdd, Nat.reduceSub, List.replicate_succ, List.replicate_zero, List.cons_append, List.nil_append, Nat.zero_add, Option.bind_some, Option.map_some, if_true, if_false, Bool.false_eq_true, Bool.not_true, Bool.not_false, eq_self, reduceCtorEq, Nat.sub_self, List.append_nil, dFld, k_core, k_size, k_height, l1, l2, h2, Int.natCast_zero, beq_self_eq_true, (by decide : (((32 : Nat) : Int) == 32) = true), p1, dIdxC, p4, e]
  · rw [codeI_f z]
    have e := sumI c s h
    generalize k_PUBLISHED = kp at *
    generalize kl_PUBLISHED = kl at *
    by_cases c0 : c = 0
    · subst c0
      by_cases s0 : s = 32
      · subst s0
        have z3 : inP h = false := by
          cases q : inP h with
          | false => rfl
          | true => exact absurd ((spec_iff 0 32 h).mpr ⟨rfl, rfl, q⟩) z
        rw [z3] at p1
        simp -implicitDefEqProofs only [fnV, fnN, finV, finN, startE, gSeq, gLet, gSet, gSetN, gRet, gRetN, gRetO, gRet0, gDrop, gIf, gNext, gOwn, gFreeze, gFor, gUnp, gPar, gSetIx, gBreak, gCont, dVar, dPeek, dC, dNew, dBin, dBinN, dUn, dBl, dIf, dAnd, dOr, dNot, dAndV, dOrV, dOfB, dNil, dCons, dStar, items_l, dCall, dCallP, dCallPN, rScal_i, rScal_b, rScal_n, rScalL_i, rScalL_N, gErr, gTryAs, gTry, gIsE, clean, dCB, dCBN, dTru, dTup, dLst, dPair, dSl, oNone, oSome, ofO, dChain, chK, dIList, dITup, dRng, dLc, wipeE, R.bind_ok, R.bind_er, R.bind_no, fName, fTup, fSeq, items, gzipU_l, gzipU_c, gzipU_t, dISeq, fCons, fNil, fLst, oTru, gAdd_i, gSub_i, gLt_i, gLe_i, gGt_i, gGe_i, gEq_i, gNe_i, gAnd_i, gOr_i, gXor_i, gLen_l, gLen_r, gLen_t, gLen_c, gIsi_e, tyD, kb_int_int, kb_int_bool, kb_int_list, kb_int_tuple, kb_bool_int, kb_bool_bool, kb_bool_list, kb_list_list, kb_list_int, kb_list_bool, kb_list_tuple, kb_tuple_tuple, kb_tuple_list, kb_tuple_int, kb_str_str, kb_str_int, kb_str_list, kb_non_list, kb_non_int, gList_l, gList_r, gList_t, gList_c, gzip_l, genum_l, genumU_l, genumU_c, genumU_t, gInt_i, gInt_b, gAbs_i, List.getElem?_cons_zero, List.getElem?_cons_succ, List.set_cons_zero, List.set_cons_succ, List.map_cons, List.map_nil, List.length_cons, List.length_nil, iL_len, Nat.reduceAdd, Nat.reduceSub, List.replicate_succ, List.replicate_zero, List.cons_append, List.nil_append, Nat.zero_add, Option.bind_some, Option.map_some, if_true, if_false, Bool.false_eq_true, Bool.not_true, Bool.not_false, eq_self, reduceCtorEq, Nat.sub_self, List.append_nil, dFld, k_core, k_size, k_height, l1, l2, h2, (by decide : (((0 : Nat) : Int) == 0) = true), (by decide : (((32 : Nat) : Int) == 32) = true), p1, m65536, m256, e]
      · have d : (((s : Nat) : Int) == 32) = false := by rw [beq_eq_false_iff_ne]; omega
        simp -implicitDefEqProofs only [fnV, fnN, finV, finN, startE, gSeq, gLet, gSet, gSetN, gRet, gRetN, gRetO, gRet0, gDrop, gIf, gNext, gOwn, gFreeze, gFor, gUnp, gPar, gSetIx, gBreak, gCont, dVar, dPeek, dC, dNew, dBin, dBinN, dUn, dBl, dIf, dAnd, dOr, dNot, dAndV, dOrV, dOfB, dNil, dCons, dStar, items_l, dCall, dCallP, dCallPN, rScal_i, rScal_b, rScal_n, rScalL_i, rScalL_N, gErr, gTryAs, gTry, gIsE, clean, dCB, dCBN, dTru, dTup, dLst, dPair, dSl, oNone, oSome, ofO, dChain, chK, dIList, dITup, dRng, dLc, wipeE, R.bind_ok, R.bind_er, R.bind_no, fName, fTup, fSeq, items, gzipU_l, gzipU_c, gzipU_t, dISeq, fCons, fNil, fLst, oTru, gAdd_i, gSub_i, gLt_i, gLe_i, gGt_i, gGe_i, gEq_i, gNe_i, gAnd_i, gOr_i, gXor_i, gLen_l, gLen_r, gLen_t, gLen_c, gIsi_e, tyD, kb_int_int, kb_int_bool, kb_int_list, kb_int_tuple, kb_bool_int, kb_bool_bool, kb_bool_list, kb_list_list, kb_list_int, kb_list_bool, kb_list_tuple, kb_tuple_tuple, kb_tuple_list, kb_tuple_int, kb_str_str, kb_str_int, kb_str_list, kb_non_list, kb_non_int, gList_l, gList_r, gList_t, gList_c, gzip_l, genum_l, genumU_l, genumU_c, genumU_t, gInt_i, gInt_b, gAbs_i, List.getElem?_cons_zero, List.getElem?_cons_succ, List.set_cons_zero, List.set_cons_succ, List.map_cons, List.map_nil, List.length_cons, List.length_nil, iL_len, Nat.reduceAdd, Nat.reduceSub, List.replicate_succ, List.replicate_zero, List.cons_append, List.nil_append, Nat.zero_add, Option.bind_some, Option.map_some, if_true, if_false, Bool.false_eq_true, Bool.not_true, Bool.not_false, eq_self, reduceCtorEq, Nat.sub_self, List.append_nil, dFld, k_core, k_size, k_height, l1, l2, h2, (by decide : (((0 : Nat) : Int) == 0) = true), d, m65536, m256, e]
    · have d : (((c : Nat) : Int) == 0) = false := by rw [beq_eq_false_iff_ne]; omega
      simp -implicitDefEqProofs only [fnV, fnN, finV, finN, startE, gSeq, gLet, gSet, gSetN, gRet, gRetN, gRetO, gRet0, gDrop, gIf, gNext, gOwn, gFreeze, gFor, gUnp, gPar, gSetIx, gBreak, gCont, dVar, dPeek, dC, dNew, dBin, dBinN, dUn, dBl, dIf, dAnd, dOr, dNot, dAndV, dOrV, dOfB, dNil, dCons, dStar, items_l, dCall, dCallP, dCallPN, rScal_i, rScal_b, rScal_n, rScalL_i, rScalL_N, gErr, gTryAs, gTry, gIsE, clean, dCB, dCBN, dTru, dTup, dLst, dPair, dSl, oNone, oSome, ofO, dChain, chK, dIList, dITup, dRng, dLc, wipeE, R.bind_ok, R.bind_er, R.bind_no, fName, fTup, fSeq, items, gzipU_l, gzipU_c, gzipU_t, dISeq, fCons, fNil, fLst, oTru, gAdd_i, gSub_i, gLt_i, gLe_i, gGt_i, gGe_i, gEq_i, gNe_i, gAnd_i, gOr_i, gXor_i, gLen_l, gLen_r, gLen_t, gLen_c, gIsi_e, tyD, kb_int_int, kb_int_bool, kb_int_list, kb_int_tuple, kb_bool_int, kb_bool_bool, kb_bool_list, kb_list_list, kb_list_int, kb_list_bool, kb_list_tuple, kb_tuple_tuple, kb_tuple_list, kb_tuple_int, kb_str_str, kb_str_int, kb_str_list, kb_non_list, kb_non_int, gList_l, gList_r, gList_t, gList_c, gzip_l, genum_l, genumU_l, genumU_c, genumU_t, gInt_i, gInt_b, gAbs_i, List.getElem?_cons_zero, List.getElem?_cons_succ, List.set_cons_zero, List.set_cons_succ, List.map_cons, List.map_nil, List.length_cons, List.length_nil, iL_len, Nat.reduceAdd, Nat.reduceSub, List.replicate_succ, List.replicate_zero, List.cons_append, List.nil_append, Nat.zero_add, Option.bind_some, Option.map_some, if_true, if_false, Bool.false_eq_true, Bool.not_true, Bool.not_false, eq_self, reduceCtorEq, Nat.sub_self, List.append_nil, dFld, k_core, k_size, k_height, l1, l2, h2, d, m65536, m256, e]
theorem law_code_ok {c s h : Nat} (hh : h < 26) : f__law_code [.int (c : Nat), .int (s : Nat), .int (h : Nat)] = .ok (.int (codeI c s h : Nat)) := by
  obtain ⟨_, p1, _⟩ := pub_ok hh
  refine fnV_rt ?_
  unfold g__law_code
  by_cases z : spec c s h = true
  · rw [codeI_t z]
    obtain ⟨rfl, rfl, z3⟩ := (spec_iff c s h).mp z
    have e : (4 : Int) + ((h : Nat) : Int) / 5 = ((4 + h / 5 : Nat) : Int) := by omega
    rw [z3] at p1
    simp -implicitDefEqProofs only [fnV, fnN, finV, finN, startE, gSeq, gLet, gSet, gSetN, gRet, gRetN, gRetO, gRet0, gDrop, gIf, gNext, gOwn, gFreeze, gFor, gUnp, gPar, gSetIx, gBreak, gCont, dVar, dPeek, dC, dNew, dBin, dBinN, dUn, dBl, dIf, dAnd, dOr, dNot, dAndV, dOrV, dOfB, dNil, dCons, dStar, items_l, dCall, dCallP, dCallPN, rScal_i, rScal_b, rScal_n, rScalL_i, rScalL_N, gErr, gTryAs, gTry, gIsE, clean, dCB, dCBN, dTru, dTup, dLst, dPair, dSl, oNone, oSome, ofO, dChain, chK, dIList, dITup, dRng, dLc, wipeE, R.bind_ok, R.bind_er, R.bind_no, fName, fTup, fSeq, items, gzipU_l, gzipU_c, gzipU_t, dISeq, fCons, fNil, fLst, oTru, gAdd_i, gSub_i, gLt_i, gLe_i, gGt_i, gGe_i, gEq_i, gNe_i, gAnd_i, gOr_i, gXor_i, gLen_l, gLen_r, gLen_t, gLen_c, gIsi_e, tyD, kb_int_int, kb_int_bool, kb_int_list, kb_int_tuple, kb_bool_int, kb_bool_bool, kb_bool_list, kb_list_list, kb_list_int, kb_list_bool, kb_list_tuple, kb_tuple_tuple, kb_tuple_list, kb_tuple_int, kb_str_str, kb_str_int, kb_str_list, kb_non_list, kb_non_int, gList_l, gList_r, gList_t, gList_c, gzip_l, genum_l, genumU_l, genumU_c, genumU_t, gInt_i, gInt_b, gAbs_i, List.getElem?_cons_zero, List.getElem?_cons_succ, List.set_cons_zero, List.set_cons_succ, List.map_cons, List.map_nil, List.length_cons, List.length_nil, iL_len, Nat.reduceAdd, Nat.reduceSub, List.replicate_succ, List.replicate_zero, List.cons_append, List.nil_append, Nat.zero_add, Option.bind_some, Option.map_some, if_true, if_false, Bool.false_eq_true, Bool.not_true, Bool.not_false, eq_self, reduceCtorEq, Nat.sub_self, List.append_nil, (by decide : (((0 : Nat) : Int) == 0) = true), (by decide : (((32 : Nat) : Int) == 32) = true), sz5, p1, gFDiv_s (j := 5) (by decide), e]
  · rw [codeI_f z]
    have e := sumI c s h
    by_cases c0 : c = 0
    · subst c0
      by_cases s0 : s = 32
      · subst s0
        have z3 : inP h = false := by
          cases q : inP h with
          | false => rfl
          | true => exact absurd ((spec_iff 0 32 h).mpr ⟨rfl, rfl, q⟩) z
        rw [z3] at p1
        simp -implicitDefEqProofs only [fnV, fnN, finV, finN, startE, gSeq, gLet, gSet, gSetN, gRet, gRetN, gRetO, gRet0, gDrop, gIf, gNext, gOwn, gFreeze, gFor, gUnp, gPar, gSetIx, gBreak, gCont, dVar, dPeek, dC, dNew, dBin, dBinN, dUn, dBl, dIf, dAnd, dOr, dNot, dAndV, dOrV, dOfB, dNil, dCons, dStar, items_l, dCall, dCallP, dCallPN, rScal_i, rScal_b, rScal_n, rScalL_i, rScalL_N, gErr, gTryAs, gTry, gIsE, clean, dCB, dCBN, dTru, dTup, dLst, dPair, dSl, oNone, oSome, ofO, dChain, chK, dIList, dITup, dRng, dLc, wipeE, R.bind_ok, R.bind_er, R.bind_no, fName, fTup, fSeq, items, gzipU_l, gzipU_c, gzipU_t, dISeq, fCons, fNil, fLst, oTru, gAdd_i, gSub_i, gLt_i, gLe_i, gGt_i, gGe_i, gEq_i, gNe_i, gAnd_i, gOr_i, gXor_i, gLen_l, gLen_r, gLen_t, gLen_c, gIsi_e, tyD, kb_int_int, kb_int_bool, kb_int_list, kb_int_tuple, kb_bool_int, kb_bool_bool, kb_bool_list, kb_list_list, kb_list_int, kb_list_bool, kb_list_tuple, kb_tuple_tuple, kb_tuple_list, kb_tuple_int, kb_str_str, kb_str_int, kb_str_list, kb_non_list, kb_non_int, gList_l, gList_r, gList_t, gList_c, gzip_l, genum_l, genumU_l, genumU_c, genumU_t, gInt_i, gInt_b, gAbs_i, List.getElem?_cons_zero, List.getElem?_cons_succ, List.set_cons_zero, List.set_cons_succ, List.map_cons, List.map_nil, List.length_cons, List.length_nil, iL_len, Nat.reduceAdd, Nat.reduceSub, List.replicate_succ, List.replicate_zero, List.cons_append, List.nil_append, Nat.zero_add, Option.bind_some, Option.map_some, if_true, if_false, Bool.false_eq_true, Bool.not_true, Bool.not_false, eq_self, reduceCtorEq, Nat.sub_self, List.append_nil, (by decide : (((0 : Nat) : Int) == 0) = true), (by decide : (((32 : Nat) : Int) == 32) = true), sz5, p1, m65536, m256, e]
      · have d : (((s : Nat) : Int) == 32) = false := by rw [beq_eq_false_iff_ne]; omega
        simp -implicitDefEqProofs only [fnV, fnN, finV, finN, startE, gSeq, gLet, gSet, gSetN, gRet, gRetN, gRetO, gRet0, gDrop, gIf, gNext, gOwn, gFreeze, gFor, gUnp, gPar, gSetIx, gBreak, gCont, dVar, dPeek, dC, dNew, dBin, dBinN, dUn, dBl, dIf, dAnd, dOr, dNot, dAndV, dOrV, dOfB, dNil, dCons, dStar, items_l, dCall, dCallP, dCallPN, rScal_i, rScal_b, rScal_n, rScalL_i, rScalL_N, gErr, gTryAs, gTry, gIsE, clean, dCB, dCBN, dTru, dTup, dLst, dPair, dSl, oNone, oSome, ofO, dChain, chK, dIList, dITup, dRng, dLc, wipeE, R.bind_ok, R.bind_er, R.bind_no, fName, fTup, fSeq, items, gzipU_l, gzipU_c, gzipU_t, dISeq, fCons, fNil, fLst, oTru, gAdd_i, gSub_i, gLt_i, gLe_i, gGt_i, gGe_i, gEq_i, gNe_i, gAnd_i, gOr_i, gXor_i, gLen_l, gLen_r, gLen_t, gLen_c, gIsi_e, tyD, kb_int_int, kb_int_bool, kb_int_list, kb_int_tuple, kb_bool_int, kb_bool_bool, kb_bool_list, kb_list_list, kb_list_int, kb_list_bool, kb_list_tuple, kb_tuple_tuple, kb_tuple_list, kb_tuple_int, kb_str_str, kb_str_int, kb_str_list, kb_non_list, kb_non_int, gList_l, gList_r, gList_t, gList_c, gzip_l, genum_l, genumU_l, genumU_c, genumU_t, gInt_i, gInt_b, gAbs_i, List.getElem?_cons_zero, List.getElem?_cons_succ, List.set_cons_zero, List.set_cons_succ, List.map_cons, List.map_nil, List.length_cons, List.length_nil, iL_len, Nat.reduceAdd, Nat.reduceSub, List.replicate_succ, List.replicate_zero, List.cons_append, List.nil_append, Nat.zero_add, Option.bind_some, Option.map_some, if_true, if_false, Bool.false_eq_true, Bool.not_true, Bool.not_false, eq_self, reduceCtorEq, Nat.sub_self, List.append_nil, (by decide : (((0 : Nat) : Int) == 0) = true), d, m65536, m256, e]
    · have d : (((c : Nat) : Int) == 0) = false := by rw [beq_eq_false_iff_ne]; omega
      simp -implicitDefEqProofs only [fnV, fnN, finV, finN, startE, gSeq, gLet, gSet, gSetN, gRet, gRetN, gRetO, gRet0, gDrop, gIf, gNext, gOwn, gFreeze, gFor, gUnp, gPar, gSetIx, gBreak, gCont, dVar, dPeek, dC, dNew, dBin, dBinN, dUn, dBl, dIf, dAnd, dOr, dNot, dAndV, dOrV, dOfB, dNil, dCons, dStar, items_l, dCall, dCallP, dCallPN, rScal_i, rScal_b, rScal_n, rScalL_i, rScalL_N, gErr, gTryAs, gTry, gIsE, clean, dCB, dCBN, dTru, dTup, dLst, dPair, dSl, oNone, oSome, ofO, dChain, chK, dIList, dITup, dRng, dLc, wipeE, R.bind_ok, R.bind_er, R.bind_no, fName, fTup, fSeq, items, gzipU_l, gzipU_c, gzipU_t, dISeq, fCons, fNil, fLst, oTru, gAdd_i, gSub_i, gLt_i, gLe_i, gGt_i, gGe_i, gEq_i, gNe_i, gAnd_i, gOr_i, gXor_i, gLen_l, gLen_r, gLen_t, gLen_c, gIsi_e, tyD, kb_int_int, kb_int_bool, kb_int_list, kb_int_tuple, kb_bool_int, kb_bool_bool, kb_bool_list, kb_list_list, kb_list_int, kb_list_bool, kb_list_tuple, kb_tuple_tuple, kb_tuple_list, kb_tuple_int, kb_str_str, kb_str_int, kb_str_list, kb_non_list, kb_non_int, gList_l, gList_r, gList_t, gList_c, gzip_l, genum_l, genumU_l, genumU_c, genumU_t, gInt_i, gInt_b, gAbs_i, List.getElem?_cons_zero, List.getElem?_cons_succ, List.set_cons_zero, List.set_cons_succ, List.map_cons, List.map_nil, List.length_cons, List.length_nil, iL_len, Nat.reduceAdd, Nat.reduceSub, List.replicate_succ, List.replicate_zero, List.cons_append, List.nil_append, Nat.zero_add, Option.bind_some, Option.map_some, if_true, if_false, Bool.false_eq_true, Bool.not_true, Bool.not_false, eq_self, reduceCtorEq, Nat.sub_self, List.append_nil, d, m65536, m256, e]
def treeG (c s h : Nat) (fs1 : List (Str × D)) : List (Str × D) := [("one_time", .obj 4 fs1), ("suite", .obj 3 (suiteF c s)), ("height", .int (h : Nat)), ("places", .int ((2 ^ h : Nat) : Int)), ("code", .int (codeI c s h : Nat))]
theorem shl1 {h : Nat} (hh : h < 26) : gShl (.int 1) (.int (h : Nat)) = some (.int ((2 ^ h : Nat) : Int)) := by
  rw [gShl_i ⟨by omega, by omega, by decide⟩, Int.toNat_natCast, Int.one_mul, Int.natCast_pow]
  rfl
theorem tree_init {c s h : Nat} {fs1 : List (Str × D)} (l1 : fs1.lookup ("suite" : Str) = some (.obj 3 (suiteF c s))) (hh : h < 26) : f_TreeKind_init [.obj 4 fs1, .int (h : Nat)] = .ok (treeG c s h fs1) := by
  have d1 : decide (0 ≤ ((h : Nat) : Int)) = true := decide_eq_true (by omega)
  have d2 : decide (((h : Nat) : Int) ≤ 25) = true := decide_eq_true (by omega)
  have sh := shl1 hh
  have e2 : dFld okF "suite" (dVar 1) [.b 5 [("one_time", .obj 4 fs1)], .v (.obj 4 fs1), .v (.int (h : Nat))] = .ok (.obj 3 (suiteF c s)) := by
    simp -implicitDefEqProofs only [fnV, fnN, finV, finN, startE, gSeq, gLet, gSet, gSetN, gRet, gRetN, gRetO, gRet0, gDrop, gIf, gNext, gOwn, gFreeze, gFor, gUnp, gPar, gSetIx, gBreak, gCont, dVar, dPeek, dC, dNew, dBin, dBinN, dUn, dBl, dIf, dAnd, dOr, dNot, dAndV, dOrV, dOfB, dNil, dCons, dStar, items_l, dCall, dCallP, dCallPN, rScal_i, rScal_b, rScal_n, rScalL_i, rScalL_N, gErr, gTryAs, gTry, gIsE, clean, dCB, dCBN, dTru, dTup, dLst, dPair, dSl, oNone, oSome, ofO, dChain, chK, dIList, dITup, dRng, dLc, wipeE, R.bind_ok, R.bind_er, R.bind_no, fName, fTup, fSeq, items, gzipU_l, gzipU_c, gzipU_t, dISeq, fCons, fNil, fLst, oTru, gAdd_i, gSub_i, gLt_i, gLe_i, gGt_i, gGe_i, gEq_i, gNe_i, gAnd_i, gOr_i, gXor_i, gLen_l, gLen_r, gLen_t, gLen_c, gIsi_e, tyD, kb_int_int, kb_int_bool, kb_int_list, kb_int_tuple, kb_bool_int, kb_bool_bool, kb_bool_list, kb_list_list, kb_list_int, kb_list_bool, kb_list_tuple, kb_tuple_tuple, kb_tuple_list, kb_tuple_int, kb_str_str, kb_str_int, kb_str_list, kb_non_list, kb_non_int, gList_l, gList_r, gList_t, gList_c, gzip_l, genum_l, genumU_l, genumU_c, genumU_t, gInt_i, gInt_b, gAbs_i, List.getElem?_cons_zero, List.getElem?_cons_succ, List.set_cons_zero, List.set_cons_succ, List.map_cons, List.map_nil, List.length_cons, List.length_nil, iL_len, Nat.reduceAdd, Nat.reduceSub, List.replicate_succ, List.replicate_zero, List.cons_append, List.nil_append, Nat.zero_add, Option.bind_some, Option.map_some, if_true, if_false, Bool.false_eq_true, Bool.not_true, Bool.not_false, eq_self, reduceCtorEq, Nat.sub_self, List.append_nil, dFld, k_suite4, l1]
  have e4 : dBin gShl (dC (.int 1)) (dPeek 2) [.b 5 [("one_time", .obj 4 fs1), ("suite", .obj 3 (suiteF c s)), ("height", .int (h : Nat))], .v (.obj 4 fs1), .v (.int (h : Nat))] = .ok (.int ((2 ^ h : Nat) : Int)) := by
    simp -implicitDefEqProofs only [fnV, fnN, finV, finN, startE, gSeq, gLet, gSet, gSetN, gRet, gRetN, gRetO, gRet0, gDrop, gIf, gNext, gOwn, gFreeze, gFor, gUnp, gPar, gSetIx, gBreak, gCont, dVar, dPeek, dC, dNew, dBin, dBinN, dUn, dBl, dIf, dAnd, dOr, dNot, dAndV, dOrV, dOfB, dNil, dCons, dStar, items_l, dCall, dCallP, dCallPN, rScal_i, rScal_b, rScal_n, rScalL_i, rScalL_N, gErr, gTryAs, gTry, gIsE, clean, dCB, dCBN, dTru, dTup, dLst, dPair, dSl, oNone, oSome, ofO, dChain, chK, dIList, dITup, dRng, dLc, wipeE, R.bind_ok, R.bind_er, R.bind_no, fName, fTup, fSeq, items, gzipU_l, gzipU_c, gzipU_t, dISeq, fCons, fNil, fLst, oTru, gAdd_i, gSub_i, gLt_i, gLe_i, gGt_i, gGe_i, gEq_i, gNe_i, gAnd_i, gOr_i, gXor_i, gLen_l, gLen_r, gLen_t, gLen_c, gIsi_e, tyD, kb_int_int, kb_int_bool, kb_int_list, kb_int_tuple, kb_bool_int, kb_bool_bool, kb_bool_list, kb_list_list, kb_list_int, kb_list_bool, kb_list_tuple, kb_tuple_tuple, kb_tuple_list, kb_tuple_int, kb_str_str, kb_str_int, kb_str_list, kb_non_list, kb_non_int, gList_l, gList_r, gList_t, gList_c, gzip_l, genum_l, genumU_l, genumU_c, genumU_t, gInt_i, gInt_b, gAbs_i, List.getElem?_cons_zero, List.getElem?_cons_succ, List.set_cons_zero, List.set_cons_succ, List.map_cons, List.map_nil, List.length_cons, List.length_nil, iL_len, Nat.reduceAdd, Nat.reduceSub, List.replicate_succ, List.replicate_zero, List.cons_append, List.nil_append, Nat.zero_add, Option.bind_some, Option.map_some, if_true, if_false, Bool.false_eq_true, Bool.not_true, Bool.not_false, eq_self, reduceCtorEq, Nat.sub_self, List.append_nil, sh]
  have tc := tree_code (fs := [("one_time", .obj 4 fs1), ("suite", .obj 3 (suiteF c s)), ("height", .int (h : Nat)), ("places", .int ((2 ^ h : Nat) : Int))]) (c := c) (s := s) (h := h) rfl rfl hh
  have e5 : dMethB 5 "_code" (f_TreeKind__code) dNil [.b 5 [("one_time", .obj 4 fs1), ("suite", .obj 3 (suiteF c s)), ("height", .int (h : Nat)), ("places", .int ((2 ^ h : Nat) : Int))], .v (.obj 4 fs1), .v (.int (h : Nat))] = .ok (.int (codeI c s h : Nat)) := by
    have e : dMethB 5 "_code" (f_TreeKind__code) dNil [.b 5 [("one_time", .obj 4 fs1), ("suite", .obj 3 (suiteF c s)), ("height", .int (h : Nat)), ("places", .int ((2 ^ h : Nat) : Int))], .v (.obj 4 fs1), .v (.int (h : Nat))] = rScal (f_TreeKind__code [.obj 5 [("one_time", .obj 4 fs1), ("suite", .obj 3 (suiteF c s)), ("height", .int (h : Nat)), ("places", .int ((2 ^ h : Nat) : Int))]]) := by
      unfold dMethB
      generalize f_TreeKind__code = g
      show (if 5 = 5 ∧ List.lookup ("_code" : Str) _ = none then _ else R.no) = _
      rw [if_pos ⟨rfl, rfl⟩]
      rfl
    rw [e, tc, rScal_i]
  refine fnB_nx (ρ := [.b 5 (treeG c s h fs1), .v (.obj 4 fs1), .v (.int (h : Nat))]) ?_ rfl
  show g_TreeKind_init [.b 5 [], .v (.obj 4 fs1), .v (.int (h : Nat))] = _
  unfold g_TreeKind_init
  refine (seq_nx (by (simp -implicitDefEqProofs only [fnV, fnN, finV, finN, startE, gSeq, gLet, gSet, gSetN, gRet, gRetN, gRetO, gRet0, gDrop, gIf, gNext, gOwn, gFreeze, gFor, gUnp, gPar, gSetIx, gBreak, gCont, dVar, dPeek, dC, dNew, dBin, dBinN, dUn, dBl, dIf, dAnd, dOr, dNot, dAndV, dOrV, dOfB, dNil, dCons, dStar, items_l, dCall, dCallP, dCallPN, rScal_i, rScal_b, rScal_n, rScalL_i, rScalL_N, gErr, gTryAs, gTry, gIsE, clean, dCB, dCBN, dTru, dTup, dLst, dPair, dSl, oNone, oSome, ofO, dChain, chK, dIList, dITup, dRng, dLc, wipeE, R.bind_ok, R.bind_er, R.bind_no, fName, fTup, fSeq, items, gzipU_l, gzipU_c, gzipU_t, dISeq, fCons, fNil, fLst, oTru, gAdd_i, gSub_i, gLt_i, gLe_i, gGt_i, gGe_i, gEq_i, gNe_i, gAnd_i, gOr_i, gXor_i, gLen_l, gLen_r, gLen_t, gLen_c, gIsi_e, tyD, kb_int_int, kb_int_bool, kb_int_list, kb_int_tuple, kb_bool_int, kb_bool_bool, kb_bool_list, kb_list_list, kb_list_int, kb_list_bool, kb_list_tuple, kb_tuple_tuple, kb_tuple_list, kb_tuple_int, kb_str_str, kb_str_int, kb_str_list, kb_non_list, kb_non_int, gList_l, gList_r, gList_t, gList_c, gzip_l, genum_l, genumU_l, genumU_c, genumU_t, gInt_i, gInt_b, gAbs_i, List.getElem?_cons_zero, List.getElem?_cons_succ, List.set_cons_zero, List.set_cons_succ, List.map_cons, List.map_nil, List.length_cons, List.length_nil, iL_len, Nat.reduceAdd, Nat.reduceSub, List.replicate_succ, List.replicate_zero, List.cons_append, List.nil_append, Nat.zero_add, Option.bind_some, Option.map_some, if_true, if_false, Bool.false_eq_true, Bool.not_true, Bool.not_false, eq_self, reduceCtorEq, Nat.sub_self, List.append_nil, d1, d2]) <;> rfl)).trans ?_
  refine (seq_nx (gPut_ok (C := 5) (fs := []) (d := .obj 4 fs1) rfl rfl k_one (by decide))).trans ?_
  refine (seq_nx (gPut_ok (C := 5) (fs := [("one_time", .obj 4 fs1)]) e2 rfl k_suite5 (by simp))).trans ?_
  refine (seq_nx (gPut_ok (C := 5) (fs := [("one_time", .obj 4 fs1), ("suite", .obj 3 (suiteF c s))]) (d := .int (h : Nat)) rfl rfl k_height (by simp))).trans ?_
  refine (seq_nx (gPut_ok (C := 5) (fs := [("one_time", .obj 4 fs1), ("suite", .obj 3 (suiteF c s)), ("height", .int (h : Nat))]) e4 rfl k_places (by simp))).trans ?_
  exact gPut_ok (C := 5) (fs := [("one_time", .obj 4 fs1), ("suite", .obj 3 (suiteF c s)), ("height", .int (h : Nat)), ("places", .int ((2 ^ h : Nat) : Int))]) e5 rfl k_code5 (by simp)
theorem tree_bad {o : D} {b : Int} (hb : b < 0 ∨ 25 < b) : f_TreeKind_init [o, .int b] = .er 1 := by
  have z : g_TreeKind_init [.b 5 [], .v o, .v (.int b)] = .er 1 [.b 5 [], .v o, .v (.int b)] := by
    unfold g_TreeKind_init
    by_cases h0 : 0 ≤ b
    · have d1 : decide (0 ≤ b) = true := decide_eq_true h0
      have d2 : decide (b ≤ 25) = false := decide_eq_false (by omega)
      simp -implicitDefEqProofs only [fnV, fnN, finV, finN, startE, gSeq, gLet, gSet, gSetN, gRet, gRetN, gRetO, gRet0, gDrop, gIf, gNext, gOwn, gFreeze, gFor, gUnp, gPar, gSetIx, gBreak, gCont, dVar, dPeek, dC, dNew, dBin, dBinN, dUn, dBl, dIf, dAnd, dOr, dNot, dAndV, dOrV, dOfB, dNil, dCons, dStar, items_l, dCall, dCallP, dCallPN, rScal_i, rScal_b, rScal_n, rScalL_i, rScalL_N, gErr, gTryAs, gTry, gIsE, clean, dCB, dCBN, dTru, dTup, dLst, dPair, dSl, oNone, oSome, ofO, dChain, chK, dIList, dITup, dRng, dLc, wipeE, R.bind_ok, R.bind_er, R.bind_no, fName, fTup, fSeq, items, gzipU_l, gzipU_c, gzipU_t, dISeq, fCons, fNil, fLst, oTru, gAdd_i, gSub_i, gLt_i, gLe_i, gGt_i, gGe_i, gEq_i, gNe_i, gAnd_i, gOr_i, gXor_i, gLen_l, gLen_r, gLen_t, gLen_c, gIsi_e, tyD, kb_int_int, kb_int_bool, kb_int_list, kb_int_tuple, kb_bool_int, kb_bool_bool, kb_bool_list, kb_list_list, kb_list_int, kb_list_bool, kb_list_tuple, kb_tuple_tuple, kb_tuple_list, kb_tuple_int, kb_str_str, kb_str_int, kb_str_list, kb_non_list, kb_non_int, gList_l, gList_r, gList_t, gList_c, gzip_l, genum_l, genumU_l, genumU_c, genumU_t, gInt_i, gInt_b, gAbs_i, List.getElem?_cons_zero, List.getElem?_cons_succ, List.set_cons_zero, List.set_cons_succ, List.map_cons, List.map_nil, List.length_cons, List.length_nil, iL_len, Nat.reduceAdd, Nat.reduceSub, List.replicate_succ, List.replicate_zero, List.cons_append, List.nil_append, Nat.zero_add, Option.bind_some, Option.map_some, if_true, if_false, Bool.false_eq_true, Bool.not_true, Bool.not_false, eq_self, reduceCtorEq, Nat.sub_self, List.append_nil, d1, d2]
    · have d1 : decide (0 ≤ b) = false := decide_eq_false h0
      simp -implicitDefEqProofs only [fnV, fnN, finV, finN, startE, gSeq, gLet, gSet, gSetN, gRet, gRetN, gRetO, gRet0, gDrop, gIf, gNext, gOwn, gFreeze, gFor, gUnp, gPar, gSetIx, gBreak, gCont, dVar, dPeek, dC, dNew, dBin, dBinN, dUn, dBl, dIf, dAnd, dOr, dNot, dAndV, dOrV, dOfB, dNil, dCons, dStar, items_l, dCall, dCallP, dCallPN, rScal_i, rScal_b, rScal_n, rScalL_i, rScalL_N, gErr, gTryAs, gTry, gIsE, clean, dCB, dCBN, dTru, dTup, dLst, dPair, dSl, oNone, oSome, ofO, dChain, chK, dIList, dITup, dRng, dLc, wipeE, R.bind_ok, R.bind_er, R.bind_no, fName, fTup, fSeq, items, gzipU_l, gzipU_c, gzipU_t, dISeq, fCons, fNil, fLst, oTru, gAdd_i, gSub_i, gLt_i, gLe_i, gGt_i, gGe_i, gEq_i, gNe_i, gAnd_i, gOr_i, gXor_i, gLen_l, gLen_r, gLen_t, gLen_c, gIsi_e, tyD, kb_int_int, kb_int_bool, kb_int_list, kb_int_tuple, kb_bool_int, kb_bool_bool, kb_bool_list, kb_list_list, kb_list_int, kb_list_bool, kb_list_tuple, kb_tuple_tuple, kb_tuple_list, kb_tuple_int, kb_str_str, kb_str_int, kb_str_list, kb_non_list, kb_non_int, gList_l, gList_r, gList_t, gList_c, gzip_l, genum_l, genumU_l, genumU_c, genumU_t, gInt_i, gInt_b, gAbs_i, List.getElem?_cons_zero, List.getElem?_cons_succ, List.set_cons_zero, List.set_cons_succ, List.map_cons, List.map_nil, List.length_cons, List.length_nil, iL_len, Nat.reduceAdd, Nat.reduceSub, List.replicate_succ, List.replicate_zero, List.cons_append, List.nil_append, Nat.zero_add, Option.bind_some, Option.map_some, if_true, if_false, Bool.false_eq_true, Bool.not_true, Bool.not_false, eq_self, reduceCtorEq, Nat.sub_self, List.append_nil, d1]
  exact fnB_er z
theorem lc_none {β : Type} {gf : D → En → Option En} {gt : En → R Bool} {ge : En → R D} {ρ : En} (c : β → D) (xs : List β) (h : ∀ x ∈ xs, ∃ ρ1, gf (c x) ρ = some ρ1 ∧ gt ρ1 = .ok false) : lcD gf gt ge ρ (xs.map c) = .ok [] := by
  induction xs with
  | nil => rfl
  | cons x xs ih =>
    obtain ⟨ρ1, e1, e2⟩ := h x (by simp)
    simp only [List.map_cons]
    unfold lcD
    rw [e1]
    dsimp only
    rw [e2]
    exact ih fun y hy => h y (by simp [hy])
theorem lc_filter {β : Type} {gf : D → En → Option En} {gt : En → R Bool} {ge : En → R D} {ρ : En} (c out : β → D) (p : β → Bool) (xs : List β) (h : ∀ x ∈ xs, ∃ ρ1, gf (c x) ρ = some ρ1 ∧ gt ρ1 = .ok (p x) ∧ ge ρ1 = .ok (out x)) : lcD gf gt ge ρ (xs.map c) = .ok ((xs.filter p).map out) := by
  induction xs with
  | nil => rfl
  | cons x xs ih =>
    obtain ⟨ρ1, e1, e2, e3⟩ := h x (by simp)
    have i := ih fun y hy => h y (by simp [hy])
    simp only [List.map_cons]
    unfold lcD
    rw [e1]
    dsimp only
    rw [e2]
    cases q : p x with
    | false => rw [List.filter_cons_of_neg (by rw [q]; decide)]; exact i
    | true =>
      rw [List.filter_cons_of_pos q]
      dsimp only
      rw [e3]
      dsimp only
      rw [i]
      rfl
theorem int_ok (i : Int) : f__law_integer [.int i] = .ok (.bl true) := by
  unfold f__law_integer g__law_integer
  simp -implicitDefEqProofs only [fnV, fnN, finV, finN, startE, gSeq, gLet, gSet, gSetN, gRet, gRetN, gRetO, gRet0, gDrop, gIf, gNext, gOwn, gFreeze, gFor, gUnp, gPar, gSetIx, gBreak, gCont, dVar, dPeek, dC, dNew, dBin, dBinN, dUn, dBl, dIf, dAnd, dOr, dNot, dAndV, dOrV, dOfB, dNil, dCons, dStar, items_l, dCall, dCallP, dCallPN, rScal_i, rScal_b, rScal_n, rScalL_i, rScalL_N, gErr, gTryAs, gTry, gIsE, clean, dCB, dCBN, dTru, dTup, dLst, dPair, dSl, oNone, oSome, ofO, dChain, chK, dIList, dITup, dRng, dLc, wipeE, R.bind_ok, R.bind_er, R.bind_no, fName, fTup, fSeq, items, gzipU_l, gzipU_c, gzipU_t, dISeq, fCons, fNil, fLst, oTru, gAdd_i, gSub_i, gLt_i, gLe_i, gGt_i, gGe_i, gEq_i, gNe_i, gAnd_i, gOr_i, gXor_i, gLen_l, gLen_r, gLen_t, gLen_c, gIsi_e, tyD, kb_int_int, kb_int_bool, kb_int_list, kb_int_tuple, kb_bool_int, kb_bool_bool, kb_bool_list, kb_list_list, kb_list_int, kb_list_bool, kb_list_tuple, kb_tuple_tuple, kb_tuple_list, kb_tuple_int, kb_str_str, kb_str_int, kb_str_list, kb_non_list, kb_non_int, gList_l, gList_r, gList_t, gList_c, gzip_l, genum_l, genumU_l, genumU_c, genumU_t, gInt_i, gInt_b, gAbs_i, List.getElem?_cons_zero, List.getElem?_cons_succ, List.set_cons_zero, List.set_cons_succ, List.map_cons, List.map_nil, List.length_cons, List.length_nil, iL_len, Nat.reduceAdd, Nat.reduceSub, List.replicate_succ, List.replicate_zero, List.cons_append, List.nil_append, Nat.zero_add, Option.bind_some, Option.map_some, if_true, if_false, Bool.false_eq_true, Bool.not_true, Bool.not_false, eq_self, reduceCtorEq, Nat.sub_self, List.append_nil]
theorem fields_ok {c s h w : Nat} {fs1 : List (Str × D)} (l1 : fs1.lookup ("suite" : Str) = some (.obj 3 (suiteF c s))) (l3 : fs1.lookup ("width" : Str) = some (.int (w : Nat))) (hh : h < 26) :
    f__law_fields [.obj 5 (treeG c s h fs1), .int (c : Nat), .int (s : Nat), .int (w : Nat), .int (h : Nat)] = .ok (.bl true) := by
  have lc := law_code_ok (c := c) (s := s) hh
  have sh := shl1 hh
  have t1 : (treeG c s h fs1).lookup ("height" : Str) = some (.int (h : Nat)) := rfl
  have t2 : (treeG c s h fs1).lookup ("places" : Str) = some (.int ((2 ^ h : Nat) : Int)) := rfl
  have t3 : (treeG c s h fs1).lookup ("code" : Str) = some (.int (codeI c s h : Nat)) := rfl
  have t4 : (treeG c s h fs1).lookup ("one_time" : Str) = some (.obj 4 fs1) := rfl
  have t5 : (treeG c s h fs1).lookup ("suite" : Str) = some (.obj 3 (suiteF c s)) := rfl
  have u1 := sF_core c s
  have u2 := sF_size c s
  generalize treeG c s h fs1 = tf at *
  generalize suiteF c s = sf at *
  generalize codeI c s h = co at *
  generalize 2 ^ h = pl at *
  have ne : gNe (.lst [.int (h : Nat), .int (pl : Nat), .int (co : Nat), .int (w : Nat)]) (.lst [.int (h : Nat), .int (pl : Nat), .int (co : Nat), .int (w : Nat)]) = some (.bl false) := by
    have := gNe_ints [(h : Nat), (pl : Nat), (co : Nat), (w : Nat)] [(h : Nat), (pl : Nat), (co : Nat), (w : Nat)]
    rw [beq_self_eq_true] at this
    exact this
  have eq : gEq (.lst [.int (c : Nat), .int (s : Nat), .int (s : Nat)]) (.lst [.int (c : Nat), .int (s : Nat), .int (s : Nat)]) = some (.bl true) := by
    have := gEq_ints [(c : Nat), (s : Nat), (s : Nat)] [(c : Nat), (s : Nat), (s : Nat)]
    rw [beq_self_eq_true] at this
    exact this
  have lcx : dLc [6] (dISeq (dPeek 5)) (fName 6) (dNot (dTru (dCall (f__law_integer) (dCons (dVar 6) dNil)))) (dVar 6) [.v (.obj 5 tf), .v (.int (c : Nat)), .v (.int (s : Nat)), .v (.int (w : Nat)), .v (.int (h : Nat)), .v (.lst [.int (h : Nat), .int (pl : Nat), .int (co : Nat), .int (w : Nat)]), .un] = .ok [] := by
    refine lc_ok (ds := [D.int (h : Nat), D.int (pl : Nat), D.int (co : Nat), D.int (w : Nat)]) rfl (by simp) ?_
    refine lc_none (fun i : Int => D.int i) [(h : Nat), (pl : Nat), (co : Nat), (w : Nat)] (fun x hx => ⟨_, rfl, ?_⟩)
    simp -implicitDefEqProofs only [fnV, fnN, finV, finN, startE, gSeq, gLet, gSet, gSetN, gRet, gRetN, gRetO, gRet0, gDrop, gIf, gNext, gOwn, gFreeze, gFor, gUnp, gPar, gSetIx, gBreak, gCont, dVar, dPeek, dC, dNew, dBin, dBinN, dUn, dBl, dIf, dAnd, dOr, dNot, dAndV, dOrV, dOfB, dNil, dCons, dStar, items_l, dCall, dCallP, dCallPN, rScal_i, rScal_b, rScal_n, rScalL_i, rScalL_N, gErr, gTryAs, gTry, gIsE, clean, dCB, dCBN, dTru, dTup, dLst, dPair, dSl, oNone, oSome, ofO, dChain, chK, dIList, dITup, dRng, dLc, wipeE, R.bind_ok, R.bind_er, R.bind_no, fName, fTup, fSeq, items, gzipU_l, gzipU_c, gzipU_t, dISeq, fCons, fNil, fLst, oTru, gAdd_i, gSub_i, gLt_i, gLe_i, gGt_i, gGe_i, gEq_i, gNe_i, gAnd_i, gOr_i, gXor_i, gLen_l, gLen_r, gLen_t, gLen_c, gIsi_e, tyD, kb_int_int, kb_int_bool, kb_int_list, kb_int_tuple, kb_bool_int, kb_bool_bool, kb_bool_list, kb_list_list, kb_list_int, kb_list_bool, kb_list_tuple, kb_tuple_tuple, kb_tuple_list, kb_tuple_int, kb_str_str, kb_str_int, kb_str_list, kb_non_list, kb_non_int, gList_l, gList_r, gList_t, gList_c, gzip_l, genum_l, genumU_l, genumU_c, genumU_t, gInt_i, gInt_b, gAbs_i, List.getElem?_cons_zero, List.getElem?_cons_succ, List.set_cons_zero, List.set_cons_succ, List.map_cons, List.map_nil, List.length_cons, List.length_nil, iL_len, Nat.reduceAdd, Nat.reduceSub, List.replicate_succ, List.replicate_zero, List.cons_append, List.nil_append, Nat.zero_add, Option.bind_some, Option.map_some, if_true, if_false, Bool.false_eq_true, Bool.not_true, Bool.not_false, eq_self, reduceCtorEq, Nat.sub_self, List.append_nil, int_ok]
  refine fnV_rt ?_
  unfold g__law_fields
  generalize dLc [6] (dISeq (dPeek 5)) (fName 6) (dNot (dTru (dCall (f__law_integer) (dCons (dVar 6) dNil)))) (dVar 6) = F at lcx ⊢
  refine (seq_nx (by (simp -implicitDefEqProofs only [fnV, fnN, finV, finN, startE, gSeq, gLet, gSet, gSetN, gRet, gRetN, gRetO, gRet0, gDrop, gIf, gNext, gOwn, gFreeze, gFor, gUnp, gPar, gSetIx, gBreak, gCont, dVar, dPeek, dC, dNew, dBin, dBinN, dUn, dBl, dIf, dAnd, dOr, dNot, dAndV, dOrV, dOfB, dNil, dCons, dStar, items_l, dCall, dCallP, dCallPN, rScal_i, rScal_b, rScal_n, rScalL_i, rScalL_N, gErr, gTryAs, gTry, gIsE, clean, dCB, dCBN, dTru, dTup, dLst, dPair, dSl, oNone, oSome, ofO, dChain, chK, dIList, dITup, dRng, dLc, wipeE, R.bind_ok, R.bind_er, R.bind_no, fName, fTup, fSeq, items, gzipU_l, gzipU_c, gzipU_t, dISeq, fCons, fNil, fLst, oTru, gAdd_i, gSub_i, gLt_i, gLe_i, gGt_i, gGe_i, gEq_i, gNe_i, gAnd_i, gOr_i, gXor_i, gLen_l, gLen_r, gLen_t, gLen_c, gIsi_e, tyD, kb_int_int, kb_int_bool, kb_int_list, kb_int_tuple, kb_bool_int, kb_bool_bool, kb_bool_list, kb_list_list, kb_list_int, kb_list_bool, kb_list_tuple, kb_tuple_tuple, kb_tuple_list, kb_tuple_int, kb_str_str, kb_str_int, kb_str_list, kb_non_list, kb_non_int, gList_l, gList_r, gList_t, gList_c, gzip_l, genum_l, genumU_l, genumU_c, genumU_t, gInt_i, gInt_b, gAbs_i, List.getElem?_cons_zero, List.getElem?_cons_succ, List.set_cons_zero, List.set_cons_succ, List.map_cons, List.map_nil, List.length_cons, List.length_nil, iL_len, Nat.reduceAdd, Nat.reduceSub, List.replicate_succ, List.replicate_zero, List.cons_append, List.nil_append, Nat.zero_add, Option.bind_some, Option.map_some, if_true, if_false, Bool.false_eq_true, Bool.not_true, Bool.not_false, eq_self, reduceCtorEq, Nat.sub_self, List.append_nil, dFld, k_height, k_places, k_code5, k_one, k_width, t1, t2, t3, t4, l3, sz4]) <;> rfl)).trans ?_
  refine (seq_nx (by (simp -implicitDefEqProofs only [fnV, fnN, finV, finN, startE, gSeq, gLet, gSet, gSetN, gRet, gRetN, gRetO, gRet0, gDrop, gIf, gNext, gOwn, gFreeze, gFor, gUnp, gPar, gSetIx, gBreak, gCont, dVar, dPeek, dC, dNew, dBin, dBinN, dUn, dBl, dIf, dAnd, dOr, dNot, dAndV, dOrV, dOfB, dNil, dCons, dStar, items_l, dCall, dCallP, dCallPN, rScal_i, rScal_b, rScal_n, rScalL_i, rScalL_N, gErr, gTryAs, gTry, gIsE, clean, dCB, dCBN, dTru, dTup, dLst, dPair, dSl, oNone, oSome, ofO, dChain, chK, dIList, dITup, dRng, dLc, wipeE, R.bind_ok, R.bind_er, R.bind_no, fName, fTup, fSeq, items, gzipU_l, gzipU_c, gzipU_t, dISeq, fCons, fNil, fLst, oTru, gAdd_i, gSub_i, gLt_i, gLe_i, gGt_i, gGe_i, gEq_i, gNe_i, gAnd_i, gOr_i, gXor_i, gLen_l, gLen_r, gLen_t, gLen_c, gIsi_e, tyD, kb_int_int, kb_int_bool, kb_int_list, kb_int_tuple, kb_bool_int, kb_bool_bool, kb_bool_list, kb_list_list, kb_list_int, kb_list_bool, kb_list_tuple, kb_tuple_tuple, kb_tuple_list, kb_tuple_int, kb_str_str, kb_str_int, kb_str_list, kb_non_list, kb_non_int, gList_l, gList_r, gList_t, gList_c, gzip_l, genum_l, genumU_l, genumU_c, genumU_t, gInt_i, gInt_b, gAbs_i, List.getElem?_cons_zero, List.getElem?_cons_succ, List.set_cons_zero, List.set_cons_succ, List.map_cons, List.map_nil, List.length_cons, List.length_nil, iL_len, Nat.reduceAdd, Nat.reduceSub, List.replicate_succ, List.replicate_zero, List.cons_append, List.nil_append, Nat.zero_add, Option.bind_some, Option.map_some, if_true, if_false, Bool.false_eq_true, Bool.not_true, Bool.not_false, eq_self, reduceCtorEq, Nat.sub_self, List.append_nil, sh, lc, sz4, ne]) <;> rfl)).trans ?_
  refine (seq_nx (by (simp -implicitDefEqProofs only [fnV, fnN, finV, finN, startE, gSeq, gLet, gSet, gSetN, gRet, gRetN, gRetO, gRet0, gDrop, gIf, gNext, gOwn, gFreeze, gFor, gUnp, gPar, gSetIx, gBreak, gCont, dVar, dPeek, dC, dNew, dBin, dBinN, dUn, dBl, dIf, dAnd, dOr, dNot, dAndV, dOrV, dOfB, dNil, dCons, dStar, items_l, dCall, dCallP, dCallPN, rScal_i, rScal_b, rScal_n, rScalL_i, rScalL_N, gErr, gTryAs, gTry, gIsE, clean, dCB, dCBN, dTru, dTup, dLst, dPair, dSl, oNone, oSome, ofO, dChain, chK, dIList, dITup, dRng, dLc, wipeE, R.bind_ok, R.bind_er, R.bind_no, fName, fTup, fSeq, items, gzipU_l, gzipU_c, gzipU_t, dISeq, fCons, fNil, fLst, oTru, gAdd_i, gSub_i, gLt_i, gLe_i, gGt_i, gGe_i, gEq_i, gNe_i, gAnd_i, gOr_i, gXor_i, gLen_l, gLen_r, gLen_t, gLen_c, gIsi_e, tyD, kb_int_int, kb_int_bool, kb_int_list, kb_int_tuple, kb_bool_int, kb_bool_bool, kb_bool_list, kb_list_list, kb_list_int, kb_list_bool, kb_list_tuple, kb_tuple_tuple, kb_tuple_list, kb_tuple_int, kb_str_str, kb_str_int, kb_str_list, kb_non_list, kb_non_int, gList_l, gList_r, gList_t, gList_c, gzip_l, genum_l, genumU_l, genumU_c, genumU_t, gInt_i, gInt_b, gAbs_i, List.getElem?_cons_zero, List.getElem?_cons_succ, List.set_cons_zero, List.set_cons_succ, List.map_cons, List.map_nil, List.length_cons, List.length_nil, iL_len, Nat.reduceAdd, Nat.reduceSub, List.replicate_succ, List.replicate_zero, List.cons_append, List.nil_append, Nat.zero_add, Option.bind_some, Option.map_some, if_true, if_false, Bool.false_eq_true, Bool.not_true, Bool.not_false, eq_self, reduceCtorEq, Nat.sub_self, List.append_nil, lcx, (by decide : decide ((0 : Int) < ((0 : Nat) : Int)) = false)]) <;> rfl)).trans ?_
  simp -implicitDefEqProofs only [fnV, fnN, finV, finN, startE, gSeq, gLet, gSet, gSetN, gRet, gRetN, gRetO, gRet0, gDrop, gIf, gNext, gOwn, gFreeze, gFor, gUnp, gPar, gSetIx, gBreak, gCont, dVar, dPeek, dC, dNew, dBin, dBinN, dUn, dBl, dIf, dAnd, dOr, dNot, dAndV, dOrV, dOfB, dNil, dCons, dStar, items_l, dCall, dCallP, dCallPN, rScal_i, rScal_b, rScal_n, rScalL_i, rScalL_N, gErr, gTryAs, gTry, gIsE, clean, dCB, dCBN, dTru, dTup, dLst, dPair, dSl, oNone, oSome, ofO, dChain, chK, dIList, dITup, dRng, dLc, wipeE, R.bind_ok, R.bind_er, R.bind_no, fName, fTup, fSeq, items, gzipU_l, gzipU_c, gzipU_t, dISeq, fCons, fNil, fLst, oTru, gAdd_i, gSub_i, gLt_i, gLe_i, gGt_i, gGe_i, gEq_i, gNe_i, gAnd_i, gOr_i, gXor_i, gLen_l, gLen_r, gLen_t, gLen_c, gIsi_e, tyD, kb_int_int, kb_int_bool, kb_int_list, kb_int_tuple, kb_bool_int, kb_bool_bool, kb_bool_list, kb_list_list, kb_list_int, kb_list_bool, kb_list_tuple, kb_tuple_tuple, kb_tuple_list, kb_tuple_int, kb_str_str, kb_str_int, kb_str_list, kb_non_list, kb_non_int, gList_l, gList_r, gList_t, gList_c, gzip_l, genum_l, genumU_l, genumU_c, genumU_t, gInt_i, gInt_b, gAbs_i, List.getElem?_cons_zero, List.getElem?_cons_succ, List.set_cons_zero, List.set_cons_succ, List.map_cons, List.map_nil, List.length_cons, List.length_nil, iL_len, Nat.reduceAdd, Nat.reduceSub, List.replicate_succ, List.replicate_zero, List.cons_append, List.nil_append, Nat.zero_add, Option.bind_some, Option.map_some, if_true, if_false, Bool.false_eq_true, Bool.not_true, Bool.not_false, eq_self, reduceCtorEq, Nat.sub_self, List.append_nil, dFld, k_suite5, k_suite4, k_one, k_core, k_size, t4, t5, l1, u1, u2, sz3, eq]
/-! ### tree_kind_of -/
theorem codeI_inj {c s h h' : Nat} (hh : h < 26) (hh' : h' < 26) (hs : s ≤ 32) (e : codeI c s h = codeI c s h') : h = h' := by
  by_cases z : spec c s h = true
  · by_cases z' : spec c s h' = true
    · rw [codeI_t z, codeI_t z'] at e
      obtain ⟨_, _, q⟩ := (spec_iff c s h).mp z
      obtain ⟨_, _, q'⟩ := (spec_iff c s h').mp z'
      unfold inP at q q'
      simp only [Bool.or_eq_true, beq_iff_eq] at q q'
      omega
    · rw [codeI_t z, codeI_f z'] at e; omega
  · by_cases z' : spec c s h' = true
    · rw [codeI_f z, codeI_t z'] at e; omega
    · rw [codeI_f z, codeI_f z'] at e; omega
theorem pub_ix (k : Nat) (hk : k < 5) : gIx k_PUBLISHED (.int (k : Nat)) = some (.int ((5 * (k + 1) : Nat) : Int)) := by
  match k, hk with
  | 0, _ => rfl
  | 1, _ => rfl
  | 2, _ => rfl
  | 3, _ => rfl
  | 4, _ => rfl
theorem kind_t1 {c s h : Nat} {code once : Int} {fs1 : List (Str × D)} (l1 : fs1.lookup ("suite" : Str) = some (.obj 3 (suiteF c s))) (hh : h < 26) :
    g_tree_kind_of_t1 [.v (.int code), .v (.int once), .v (.obj 4 fs1), .v (.int (h : Nat)), .un] = if ((codeI c s h : Nat) : Int) = code then .rt (.obj 5 (treeG c s h fs1)) else .er 2 [.v (.int code), .v (.int once), .v (.obj 4 fs1), .v (.int (h : Nat)), .v (.obj 5 (treeG c s h fs1))] := by
  have d1 : decide (0 ≤ ((h : Nat) : Int)) = true := decide_eq_true (by omega)
  have d2 : decide (((h : Nat) : Int) ≤ 25) = true := decide_eq_true (by omega)
  have ti := tree_init l1 hh
  have t3 : (treeG c s h fs1).lookup ("code" : Str) = some (.int (codeI c s h : Nat)) := rfl
  generalize treeG c s h fs1 = tf at *
  generalize codeI c s h = co at *
  unfold g_tree_kind_of_t1
  refine (seq_nx (by (simp -implicitDefEqProofs only [fnV, fnN, finV, finN, startE, gSeq, gLet, gSet, gSetN, gRet, gRetN, gRetO, gRet0, gDrop, gIf, gNext, gOwn, gFreeze, gFor, gUnp, gPar, gSetIx, gBreak, gCont, dVar, dPeek, dC, dNew, dBin, dBinN, dUn, dBl, dIf, dAnd, dOr, dNot, dAndV, dOrV, dOfB, dNil, dCons, dStar, items_l, dCall, dCallP, dCallPN, rScal_i, rScal_b, rScal_n, rScalL_i, rScalL_N, gErr, gTryAs, gTry, gIsE, clean, dCB, dCBN, dTru, dTup, dLst, dPair, dSl, oNone, oSome, ofO, dChain, chK, dIList, dITup, dRng, dLc, wipeE, R.bind_ok, R.bind_er, R.bind_no, fName, fTup, fSeq, items, gzipU_l, gzipU_c, gzipU_t, dISeq, fCons, fNil, fLst, oTru, gAdd_i, gSub_i, gLt_i, gLe_i, gGt_i, gGe_i, gEq_i, gNe_i, gAnd_i, gOr_i, gXor_i, gLen_l, gLen_r, gLen_t, gLen_c, gIsi_e, tyD, kb_int_int, kb_int_bool, kb_int_list, kb_int_tuple, kb_bool_int, kb_bool_bool, kb_bool_list, kb_list_list, kb_list_int, kb_list_bool, kb_list_tuple, kb_tuple_tuple, kb_tuple_list, kb_tuple_int, kb_str_str, kb_str_int, kb_str_list, kb_non_list, kb_non_int, gList_l, gList_r, gList_t, gList_c, gzip_l, genum_l, genumU_l, genumU_c, genumU_t, gInt_i, gInt_b, gAbs_i, List.getElem?_cons_zero, List.getElem?_cons_succ, List.set_cons_zero, List.set_cons_succ, List.map_cons, List.map_nil, List.length_cons, List.length_nil, iL_len, Nat.reduceAdd, Nat.reduceSub, List.replicate_succ, List.replicate_zero, List.cons_append, List.nil_append, Nat.zero_add, Option.bind_some, Option.map_some, if_true, if_false, Bool.false_eq_true, Bool.not_true, Bool.not_false, eq_self, reduceCtorEq, Nat.sub_self, List.append_nil, d1, d2]) <;> rfl)).trans ?_
  refine (seq_nx (by (simp -implicitDefEqProofs only [fnV, fnN, finV, finN, startE, gSeq, gLet, gSet, gSetN, gRet, gRetN, gRetO, gRet0, gDrop, gIf, gNext, gOwn, gFreeze, gFor, gUnp, gPar, gSetIx, gBreak, gCont, dVar, dPeek, dC, dNew, dBin, dBinN, dUn, dBl, dIf, dAnd, dOr, dNot, dAndV, dOrV, dOfB, dNil, dCons, dStar, items_l, dCall, dCallP, dCallPN, rScal_i, rScal_b, rScal_n, rScalL_i, rScalL_N, gErr, gTryAs, gTry, gIsE, clean, dCB, dCBN, dTru, dTup, dLst, dPair, dSl, oNone, oSome, ofO, dChain, chK, dIList, dITup, dRng, dLc, wipeE, R.bind_ok, R.bind_er, R.bind_no, fName, fTup, fSeq, items, gzipU_l, gzipU_c, gzipU_t, dISeq, fCons, fNil, fLst, oTru, gAdd_i, gSub_i, gLt_i, gLe_i, gGt_i, gGe_i, gEq_i, gNe_i, gAnd_i, gOr_i, gXor_i, gLen_l, gLen_r, gLen_t, gLen_c, gIsi_e, tyD, kb_int_int, kb_int_bool, kb_int_list, kb_int_tuple, kb_bool_int, kb_bool_bool, kb_bool_list, kb_list_list, kb_list_int, kb_list_bool, kb_list_tuple, kb_tuple_tuple, kb_tuple_list, kb_tuple_int, kb_str_str, kb_str_int, kb_str_list, kb_non_list, kb_non_int, gList_l, gList_r, gList_t, gList_c, gzip_l, genum_l, genumU_l, genumU_c, genumU_t, gInt_i, gInt_b, gAbs_i, List.getElem?_cons_zero, List.getElem?_cons_succ, List.set_cons_zero, List.set_cons_succ, List.map_cons, List.map_nil, List.length_cons, List.length_nil, iL_len, Nat.reduceAdd, Nat.reduceSub, List.replicate_succ, List.replicate_zero, List.cons_append, List.nil_append, Nat.zero_add, Option.bind_some, Option.map_some, if_true, if_false, Bool.false_eq_true, Bool.not_true, Bool.not_false, eq_self, reduceCtorEq, Nat.sub_self, List.append_nil, dMake, ti]) <;> rfl)).trans ?_
  by_cases q : ((co : Nat) : Int) = code
  · have b : (((co : Nat) : Int) == code) = true := by rw [beq_iff_eq]; exact q
    rw [if_pos q]
    simp -implicitDefEqProofs only [fnV, fnN, finV, finN, startE, gSeq, gLet, gSet, gSetN, gRet, gRetN, gRetO, gRet0, gDrop, gIf, gNext, gOwn, gFreeze, gFor, gUnp, gPar, gSetIx, gBreak, gCont, dVar, dPeek, dC, dNew, dBin, dBinN, dUn, dBl, dIf, dAnd, dOr, dNot, dAndV, dOrV, dOfB, dNil, dCons, dStar, items_l, dCall, dCallP, dCallPN, rScal_i, rScal_b, rScal_n, rScalL_i, rScalL_N, gErr, gTryAs, gTry, gIsE, clean, dCB, dCBN, dTru, dTup, dLst, dPair, dSl, oNone, oSome, ofO, dChain, chK, dIList, dITup, dRng, dLc, wipeE, R.bind_ok, R.bind_er, R.bind_no, fName, fTup, fSeq, items, gzipU_l, gzipU_c, gzipU_t, dISeq, fCons, fNil, fLst, oTru, gAdd_i, gSub_i, gLt_i, gLe_i, gGt_i, gGe_i, gEq_i, gNe_i, gAnd_i, gOr_i, gXor_i, gLen_l, gLen_r, gLen_t, gLen_c, gIsi_e, tyD, kb_int_int, kb_int_bool, kb_int_list, kb_int_tuple, kb_bool_int, kb_bool_bool, kb_bool_list, kb_list_list, kb_list_int, kb_list_bool, kb_list_tuple, kb_tuple_tuple, kb_tuple_list, kb_tuple_int, kb_str_str, kb_str_int, kb_str_list, kb_non_list, kb_non_int, gList_l, gList_r, gList_t, gList_c, gzip_l, genum_l, genumU_l, genumU_c, genumU_t, gInt_i, gInt_b, gAbs_i, List.getElem?_cons_zero, List.getElem?_cons_succ, List.set_cons_zero, List.set_cons_succ, List.map_cons, List.map_nil, List.length_cons, List.length_nil, iL_len, Nat.reduceAdd, Nat.reduceSub, List.replicate_succ, List.replicate_zero, List.cons_append, List.nil_append, Nat.zero_add, Option.bind_some, Option.map_some, if_true, if_false, Bool.false_eq_true, Bool.not_true, Bool.not_false, eq_self, reduceCtorEq, Nat.sub_self, List.append_nil, dFld, k_code5, t3, b]
  · have b : (((co : Nat) : Int) == code) = false := by rw [beq_eq_false_iff_ne]; exact q
    rw [if_neg q]
    simp -implicitDefEqProofs only [fnV, fnN, finV, finN, startE, gSeq, gLet, gSet, gSetN, gRet, gRetN, gRetO, gRet0, gDrop, gIf, gNext, gOwn, gFreeze, gFor, gUnp, gPar, gSetIx, gBreak, gCont, dVar, dPeek, dC, dNew, dBin, dBinN, dUn, dBl, dIf, dAnd, dOr, dNot, dAndV, dOrV, dOfB, dNil, dCons, dStar, items_l, dCall, dCallP, dCallPN, rScal_i, rScal_b, rScal_n, rScalL_i, rScalL_N, gErr, gTryAs, gTry, gIsE, clean, dCB, dCBN, dTru, dTup, dLst, dPair, dSl, oNone, oSome, ofO, dChain, chK, dIList, dITup, dRng, dLc, wipeE, R.bind_ok, R.bind_er, R.bind_no, fName, fTup, fSeq, items, gzipU_l, gzipU_c, gzipU_t, dISeq, fCons, fNil, fLst, oTru, gAdd_i, gSub_i, gLt_i, gLe_i, gGt_i, gGe_i, gEq_i, gNe_i, gAnd_i, gOr_i, gXor_i, gLen_l, gLen_r, gLen_t, gLen_c, gIsi_e, tyD, kb_int_int, kb_int_bool, kb_int_list, kb_int_tuple, kb_bool_int, kb_bool_bool, kb_bool_list, kb_list_list, kb_list_int, kb_list_bool, kb_list_tuple, kb_tuple_tuple, kb_tuple_list, kb_tuple_int, kb_str_str, kb_str_int, kb_str_list, kb_non_list, kb_non_int, gList_l, gList_r, gList_t, gList_c, gzip_l, genum_l, genumU_l, genumU_c, genumU_t, gInt_i, gInt_b, gAbs_i, List.getElem?_cons_zero, List.getElem?_cons_succ, List.set_cons_zero, List.set_cons_succ, List.map_cons, List.map_nil, List.length_cons, List.length_nil, iL_len, Nat.reduceAdd, Nat.reduceSub, List.replicate_succ, List.replicate_zero, List.cons_append, List.nil_append, Nat.zero_add, Option.bind_some, Option.map_some, if_true, if_false, Bool.false_eq_true, Bool.not_true, Bool.not_false, eq_self, reduceCtorEq, Nat.sub_self, List.append_nil, dFld, k_code5, t3, b]
theorem kind_bad {code once b : Int} {o : D} (hb : b < 0 ∨ 25 < b) : g_tree_kind_of_t1 [.v (.int code), .v (.int once), .v o, .v (.int b), .un] = .er 2 [.v (.int code), .v (.int once), .v o, .v (.int b), .un] := by
  unfold g_tree_kind_of_t1
  by_cases h0 : 0 ≤ b
  · have d1 : decide (0 ≤ b) = true := decide_eq_true h0
    have d2 : decide (b ≤ 25) = false := decide_eq_false (by omega)
    simp -implicitDefEqProofs only [fnV, fnN, finV, finN, startE, gSeq, gLet, gSet, gSetN, gRet, gRetN, gRetO, gRet0, gDrop, gIf, gNext, gOwn, gFreeze, gFor, gUnp, gPar, gSetIx, gBreak, gCont, dVar, dPeek, dC, dNew, dBin, dBinN, dUn, dBl, dIf, dAnd, dOr, dNot, dAndV, dOrV, dOfB, dNil, dCons, dStar, items_l, dCall, dCallP, dCallPN, rScal_i, rScal_b, rScal_n, rScalL_i, rScalL_N, gErr, gTryAs, gTry, gIsE, clean, dCB, dCBN, dTru, dTup, dLst, dPair, dSl, oNone, oSome, ofO, dChain, chK, dIList, dITup, dRng, dLc, wipeE, R.bind_ok, R.bind_er, R.bind_no, fName, fTup, fSeq, items, gzipU_l, gzipU_c, gzipU_t, dISeq, fCons, fNil, fLst, oTru, gAdd_i, gSub_i, gLt_i, gLe_i, gGt_i, gGe_i, gEq_i, gNe_i, gAnd_i, gOr_i, gXor_i, gLen_l, gLen_r, gLen_t, gLen_c, gIsi_e, tyD, kb_int_int, kb_int_bool, kb_int_list, kb_int_tuple, kb_bool_int, kb_bool_bool, kb_bool_list, kb_list_list, kb_list_int, kb_list_bool, kb_list_tuple, kb_tuple_tuple, kb_tuple_list, kb_tuple_int, kb_str_str, kb_str_int, kb_str_list, kb_non_list, kb_non_int, gList_l, gList_r, gList_t, gList_c, gzip_l, genum_l, genumU_l, genumU_c, genumU_t, gInt_i, gInt_b, gAbs_i, List.getElem?_cons_zero, List.getElem?_cons_succ, List.set_cons_zero, List.set_cons_succ, List.map_cons, List.map_nil, List.length_cons, List.length_nil, iL_len, Nat.reduceAdd, Nat.reduceSub, List.replicate_succ, List.replicate_zero, List.cons_append, List.nil_append, Nat.zero_add, Option.bind_some, Option.map_some, if_true, if_false, Bool.false_eq_true, Bool.not_true, Bool.not_false, eq_self, reduceCtorEq, Nat.sub_self, List.append_nil, d1, d2]
  · have d1 : decide (0 ≤ b) = false := decide_eq_false h0
    simp -implicitDefEqProofs only [fnV, fnN, finV, finN, startE, gSeq, gLet, gSet, gSetN, gRet, gRetN, gRetO, gRet0, gDrop, gIf, gNext, gOwn, gFreeze, gFor, gUnp, gPar, gSetIx, gBreak, gCont, dVar, dPeek, dC, dNew, dBin, dBinN, dUn, dBl, dIf, dAnd, dOr, dNot, dAndV, dOrV, dOfB, dNil, dCons, dStar, items_l, dCall, dCallP, dCallPN, rScal_i, rScal_b, rScal_n, rScalL_i, rScalL_N, gErr, gTryAs, gTry, gIsE, clean, dCB, dCBN, dTru, dTup, dLst, dPair, dSl, oNone, oSome, ofO, dChain, chK, dIList, dITup, dRng, dLc, wipeE, R.bind_ok, R.bind_er, R.bind_no, fName, fTup, fSeq, items, gzipU_l, gzipU_c, gzipU_t, dISeq, fCons, fNil, fLst, oTru, gAdd_i, gSub_i, gLt_i, gLe_i, gGt_i, gGe_i, gEq_i, gNe_i, gAnd_i, gOr_i, gXor_i, gLen_l, gLen_r, gLen_t, gLen_c, gIsi_e, tyD, kb_int_int, kb_int_bool, kb_int_list, kb_int_tuple, kb_bool_int, kb_bool_bool, kb_bool_list, kb_list_list, kb_list_int, kb_list_bool, kb_list_tuple, kb_tuple_tuple, kb_tuple_list, kb_tuple_int, kb_str_str, kb_str_int, kb_str_list, kb_non_list, kb_non_int, gList_l, gList_r, gList_t, gList_c, gzip_l, genum_l, genumU_l, genumU_c, genumU_t, gInt_i, gInt_b, gAbs_i, List.getElem?_cons_zero, List.getElem?_cons_succ, List.set_cons_zero, List.set_cons_succ, List.map_cons, List.map_nil, List.length_cons, List.length_nil, iL_len, Nat.reduceAdd, Nat.reduceSub, List.replicate_succ, List.replicate_zero, List.cons_append, List.nil_append, Nat.zero_add, Option.bind_some, Option.map_some, if_true, if_false, Bool.false_eq_true, Bool.not_true, Bool.not_false, eq_self, reduceCtorEq, Nat.sub_self, List.append_nil, d1]
theorem kind_ok {c s j : Nat} (O : One c s j) (hs : s ≤ 32) (code : Int) :
    (∃ h, h < 26 ∧ ((codeI c s h : Nat) : Int) = code ∧ f_tree_kind_of [.int code, .int (onceI c s j : Nat)] = .ok (.obj 5 (treeG c s h (oneF c s j)))) ∨
    ((∀ h, h < 26 → ((codeI c s h : Nat) : Int) ≠ code) ∧ f_tree_kind_of [.int code, .int (onceI c s j : Nat)] = .er 2) := by
  have l1 := O.l1
  have o1 := O.o1
  generalize oneF c s j = fs1 at *
  generalize onceI c s j = on at *
  have u1 := sF_core c s
  have u2 := sF_size c s
  have st : ∀ b : Int, (if decide (5 ≤ code) = true ∧ decide (code ≤ 9) = true then ((5 * ((code - 5).toNat + 1) : Nat) : Int) else code - 3892314112 - ((65536 * c : Nat) : Int) - ((256 * s : Nat) : Int)) = b → g_tree_kind_of [.v (.int code), .v (.int (on : Nat)), .un, .un, .un] = g_tree_kind_of_t1 [.v (.int code), .v (.int (on : Nat)), .v (.obj 4 fs1), .v (.int b), .un] := by
    intro b hb
    unfold g_tree_kind_of
    generalize suiteF c s = sf at *
    refine (seq_nx (by (simp -implicitDefEqProofs only [fnV, fnN, finV, finN, startE, gSeq, gLet, gSet, gSetN, gRet, gRetN, gRetO, gRet0, gDrop, gIf, gNext, gOwn, gFreeze, gFor, gUnp, gPar, gSetIx, gBreak, gCont, dVar, dPeek, dC, dNew, dBin, dBinN, dUn, dBl, dIf, dAnd, dOr, dNot, dAndV, dOrV, dOfB, dNil, dCons, dStar, items_l, dCall, dCallP, dCallPN, rScal_i, rScal_b, rScal_n, rScalL_i, rScalL_N, gErr, gTryAs, gTry, gIsE, clean, dCB, dCBN, dTru, dTup, dLst, dPair, dSl, oNone, oSome, ofO, dChain, chK, dIList, dITup, dRng, dLc, wipeE, R.bind_ok, R.bind_er, R.bind_no, fName, fTup, fSeq, items, gzipU_l, gzipU_c, gzipU_t, dISeq, fCons, fNil, fLst, oTru, gAdd_i, gSub_i, gLt_i, gLe_i, gGt_i, gGe_i, gEq_i, gNe_i, gAnd_i, gOr_i, gXor_i, gLen_l, gLen_r, gLen_t, gLen_c, gIsi_e, tyD, kb_int_int, kb_int_bool, kb_int_list, kb_int_tuple, kb_bool_int, kb_bool_bool, kb_bool_list, kb_list_list, kb_list_int, kb_list_bool, kb_list_tuple, kb_tuple_tuple, kb_tuple_list, kb_tuple_int, kb_str_str, kb_str_int, kb_str_list, kb_non_list, kb_non_int, gList_l, gList_r, gList_t, gList_c, gzip_l, genum_l, genumU_l, genumU_c, genumU_t, gInt_i, gInt_b, gAbs_i, List.getElem?_cons_zero, List.getElem?_cons_succ, List.set_cons_zero, List.set_cons_succ, List.map_cons, List.map_nil, List.length_cons, List.length_nil, iL_len, Nat.reduceAdd, Nat.reduceSub, List.replicate_succ, List.replicate_zero, List.cons_append, List.nil_append, Nat.zero_add, Option.bind_some, Option.map_some, if_true, if_false, Bool.false_eq_true, Bool.not_true, Bool.not_false, eq_self, reduceCtorEq, Nat.sub_self, List.append_nil, o1]) <;> rfl)).trans ?_
    refine (seq_nx (by (simp -implicitDefEqProofs only [fnV, fnN, finV, finN, startE, gSeq, gLet, gSet, gSetN, gRet, gRetN, gRetO, gRet0, gDrop, gIf, gNext, gOwn, gFreeze, gFor, gUnp, gPar, gSetIx, gBreak, gCont, dVar, dPeek, dC, dNew, dBin, dBinN, dUn, dBl, dIf, dAnd, dOr, dNot, dAndV, dOrV, dOfB, dNil, dCons, dStar, items_l, dCall, dCallP, dCallPN, rScal_i, rScal_b, rScal_n, rScalL_i, rScalL_N, gErr, gTryAs, gTry, gIsE, clean, dCB, dCBN, dTru, dTup, dLst, dPair, dSl, oNone, oSome, ofO, dChain, chK, dIList, dITup, dRng, dLc, wipeE, R.bind_ok, R.bind_er, R.bind_no, fName, fTup, fSeq, items, gzipU_l, gzipU_c, gzipU_t, dISeq, fCons, fNil, fLst, oTru, gAdd_i, gSub_i, gLt_i, gLe_i, gGt_i, gGe_i, gEq_i, gNe_i, gAnd_i, gOr_i, gXor_i, gLen_l, gLen_r, gLen_t, gLen_c, gIsi_e, tyD, kb_int_int, kb_int_bool, kb_int_list, kb_int_tuple, kb_bool_int, kb_bool_bool, kb_bool_list, kb_list_list, kb_list_int, kb_list_bool, kb_list_tuple, kb_tuple_tuple, kb_tuple_list, kb_tuple_int, kb_str_str, kb_str_int, kb_str_list, kb_non_list, kb_non_int, gList_l, gList_r, gList_t, gList_c, gzip_l, genum_l, genumU_l, genumU_c, genumU_t, gInt_i, gInt_b, gAbs_i, List.getElem?_cons_zero, List.getElem?_cons_succ, List.set_cons_zero, List.set_cons_succ, List.map_cons, List.map_nil, List.length_cons, List.length_nil, iL_len, Nat.reduceAdd, Nat.reduceSub, List.replicate_succ, List.replicate_zero, List.cons_append, List.nil_append, Nat.zero_add, Option.bind_some, Option.map_some, if_true, if_false, Bool.false_eq_true, Bool.not_true, Bool.not_false, eq_self, reduceCtorEq, Nat.sub_self, List.append_nil, dFld, k_suite4, k_core, k_size, l1, u1, u2, m65536, m256]) <;> rfl)).trans ?_
    by_cases d1 : 5 ≤ code
    · by_cases d2 : code ≤ 9
      · have e1 : decide (5 ≤ code) = true := decide_eq_true d1
        have e2 : decide (code ≤ 9) = true := decide_eq_true d2
        rw [if_pos ⟨e1, e2⟩] at hb
        have ix := pub_ix (code - 5).toNat (by omega)
        have ec : ((code - 5).toNat : Int) = code - 5 := by omega
        rw [ec, hb] at ix
        generalize k_PUBLISHED = kp at *
        refine (seq_nx (by (simp -implicitDefEqProofs only [fnV, fnN, finV, finN, startE, gSeq, gLet, gSet, gSetN, gRet, gRetN, gRetO, gRet0, gDrop, gIf, gNext, gOwn, gFreeze, gFor, gUnp, gPar, gSetIx, gBreak, gCont, dVar, dPeek, dC, dNew, dBin, dBinN, dUn, dBl, dIf, dAnd, dOr, dNot, dAndV, dOrV, dOfB, dNil, dCons, dStar, items_l, dCall, dCallP, dCallPN, rScal_i, rScal_b, rScal_n, rScalL_i, rScalL_N, gErr, gTryAs, gTry, gIsE, clean, dCB, dCBN, dTru, dTup, dLst, dPair, dSl, oNone, oSome, ofO, dChain, chK, dIList, dITup, dRng, dLc, wipeE, R.bind_ok, R.bind_er, R.bind_no, fName, fTup, fSeq, items, gzipU_l, gzipU_c, gzipU_t, dISeq, fCons, fNil, fLst, oTru, gAdd_i, gSub_i, gLt_i, gLe_i, gGt_i, gGe_i, gEq_i, gNe_i, gAnd_i, gOr_i, gXor_i, gLen_l, gLen_r, gLen_t, gLen_c, gIsi_e, tyD, kb_int_int, kb_int_bool, kb_int_list, kb_int_tuple, kb_bool_int, kb_bool_bool, kb_bool_list, kb_list_list, kb_list_int, kb_list_bool, kb_list_tuple, kb_tuple_tuple, kb_tuple_list, kb_tuple_int, kb_str_str, kb_str_int, kb_str_list, kb_non_list, kb_non_int, gList_l, gList_r, gList_t, gList_c, gzip_l, genum_l, genumU_l, genumU_c, genumU_t, gInt_i, gInt_b, gAbs_i, List.getElem?_cons_zero, List.getElem?_cons_succ, List.set_cons_zero, List.set_cons_succ, List.map_cons, List.map_nil, List.length_cons, List.length_nil, iL_len, Nat.reduceAdd, Nat.reduceSub, List.replicate_succ, List.replicate_zero, List.cons_append, List.nil_append, Nat.zero_add, Option.bind_some, Option.map_some, if_true, if_false, Bool.false_eq_true, Bool.not_true, Bool.not_false, eq_self, reduceCtorEq, Nat.sub_self, List.append_nil, e1, e2, ix]) <;> rfl)).trans ?_
        rfl
      · have e1 : decide (5 ≤ code) = true := decide_eq_true d1
        have e2 : decide (code ≤ 9) = false := decide_eq_false d2
        rw [if_neg (by rw [e2]; simp)] at hb
        rw [hb]
        refine (seq_nx (by (simp -implicitDefEqProofs only [fnV, fnN, finV, finN, startE, gSeq, gLet, gSet, gSetN, gRet, gRetN, gRetO, gRet0, gDrop, gIf, gNext, gOwn, gFreeze, gFor, gUnp, gPar, gSetIx, gBreak, gCont, dVar, dPeek, dC, dNew, dBin, dBinN, dUn, dBl, dIf, dAnd, dOr, dNot, dAndV, dOrV, dOfB, dNil, dCons, dStar, items_l, dCall, dCallP, dCallPN, rScal_i, rScal_b, rScal_n, rScalL_i, rScalL_N, gErr, gTryAs, gTry, gIsE, clean, dCB, dCBN, dTru, dTup, dLst, dPair, dSl, oNone, oSome, ofO, dChain, chK, dIList, dITup, dRng, dLc, wipeE, R.bind_ok, R.bind_er, R.bind_no, fName, fTup, fSeq, items, gzipU_l, gzipU_c, gzipU_t, dISeq, fCons, fNil, fLst, oTru, gAdd_i, gSub_i, gLt_i, gLe_i, gGt_i, gGe_i, gEq_i, gNe_i, gAnd_i, gOr_i, gXor_i, gLen_l, gLen_r, gLen_t, gLen_c, gIsi_e, tyD, kb_int_int, kb_int_bool, kb_int_list, kb_int_tuple, kb_bool_int, kb_bool_bool, kb_bool_list, kb_list_list, kb_list_int, kb_list_bool, kb_list_tuple, kb_tuple_tuple, kb_tuple_list, kb_tuple_int, kb_str_str, kb_str_int, kb_str_list, kb_non_list, kb_non_int, gList_l, gList_r, gList_t, gList_c, gzip_l, genum_l, genumU_l, genumU_c, genumU_t, gInt_i, gInt_b, gAbs_i, List.getElem?_cons_zero, List.getElem?_cons_succ, List.set_cons_zero, List.set_cons_succ, List.map_cons, List.map_nil, List.length_cons, List.length_nil, iL_len, Nat.reduceAdd, Nat.reduceSub, List.replicate_succ, List.replicate_zero, List.cons_append, List.nil_append, Nat.zero_add, Option.bind_some, Option.map_some, if_true, if_false, Bool.false_eq_true, Bool.not_true, Bool.not_false, eq_self, reduceCtorEq, Nat.sub_self, List.append_nil, e1, e2]) <;> rfl)).trans ?_
        rfl
    · have e1 : decide (5 ≤ code) = false := decide_eq_false d1
      rw [if_neg (by rw [e1]; simp)] at hb
      rw [hb]
      refine (seq_nx (by (simp -implicitDefEqProofs only [fnV, fnN, finV, finN, startE, gSeq, gLet, gSet, gSetN, gRet, gRetN, gRetO, gRet0, gDrop, gIf, gNext, gOwn, gFreeze, gFor, gUnp, gPar, gSetIx, gBreak, gCont, dVar, dPeek, dC, dNew, dBin, dBinN, dUn, dBl, dIf, dAnd, dOr, dNot, dAndV, dOrV, dOfB, dNil, dCons, dStar, items_l, dCall, dCallP, dCallPN, rScal_i, rScal_b, rScal_n, rScalL_i, rScalL_N, gErr, gTryAs, gTry, gIsE, clean, dCB, dCBN, dTru, dTup, dLst, dPair, dSl, oNone, oSome, ofO, dChain, chK, dIList, dITup, dRng, dLc, wipeE, R.bind_ok, R.bind_er, R.bind_no, fName, fTup, fSeq, items, gzipU_l, gzipU_c, gzipU_t, dISeq, fCons, fNil, fLst, oTru, gAdd_i, gSub_i, gLt_i, gLe_i, gGt_i, gGe_i, gEq_i, gNe_i, gAnd_i, gOr_i, gXor_i, gLen_l, gLen_r, gLen_t, gLen_c, gIsi_e, tyD, kb_int_int, kb_int_bool, kb_int_list, kb_int_tuple, kb_bool_int, kb_bool_bool, kb_bool_list, kb_list_list, kb_list_int, kb_list_bool, kb_list_tuple, kb_tuple_tuple, kb_tuple_list, kb_tuple_int, kb_str_str, kb_str_int, kb_str_list, kb_non_list, kb_non_int, gList_l, gList_r, gList_t, gList_c, gzip_l, genum_l, genumU_l, genumU_c, genumU_t, gInt_i, gInt_b, gAbs_i, List.getElem?_cons_zero, List.getElem?_cons_succ, List.set_cons_zero, List.set_cons_succ, List.map_cons, List.map_nil, List.length_cons, List.length_nil, iL_len, Nat.reduceAdd, Nat.reduceSub, List.replicate_succ, List.replicate_zero, List.cons_append, List.nil_append, Nat.zero_add, Option.bind_some, Option.map_some, if_true, if_false, Bool.false_eq_true, Bool.not_true, Bool.not_false, eq_self, reduceCtorEq, Nat.sub_self, List.append_nil, e1]) <;> rfl)).trans ?_
      rfl
  generalize hb : (if decide (5 ≤ code) = true ∧ decide (code ≤ 9) = true then ((5 * ((code - 5).toNat + 1) : Nat) : Int) else code - 3892314112 - ((65536 * c : Nat) : Int) - ((256 * s : Nat) : Int)) = b at *
  have st := st b rfl
  -- which place has the code
  have only : ∀ h, h < 26 → ((codeI c s h : Nat) : Int) = code → ((h : Nat) : Int) = b := by
    intro h hh e
    by_cases z : spec c s h = true
    · obtain ⟨_, _, q⟩ := (spec_iff c s h).mp z
      rw [codeI_t z] at e
      unfold inP at q
      simp only [Bool.or_eq_true, beq_iff_eq] at q
      rw [if_pos (by rw [decide_eq_true_eq, decide_eq_true_eq]; omega)] at hb
      omega
    · rw [codeI_f z] at e
      rw [if_neg (by rw [decide_eq_true_eq, decide_eq_true_eq]; omega)] at hb
      omega
  have start : ∀ r : R D, (∃ ρ, g_tree_kind_of_t1 [.v (.int code), .v (.int (on : Nat)), .v (.obj 4 fs1), .v (.int b), .un] = ρ ∧ finV ρ = r) → f_tree_kind_of [.int code, .int (on : Nat)] = r := by
    rintro r ⟨ρ, e1, e2⟩
    unfold f_tree_kind_of fnV
    rw [show startE 5 [D.int code, D.int (on : Nat)] = [.v (.int code), .v (.int (on : Nat)), .un, .un, .un] from rfl, st, e1, e2]
  by_cases q : 0 ≤ b ∧ b ≤ 25
  · obtain ⟨h, rfl⟩ : ∃ h : Nat, b = h := ⟨b.toNat, by omega⟩
    have hh : h < 26 := by omega
    have t1 := kind_t1 (code := code) (once := (on : Nat)) l1 hh
    by_cases e : ((codeI c s h : Nat) : Int) = code
    · rw [if_pos e] at t1
      exact .inl ⟨h, hh, e, start _ ⟨_, t1, rfl⟩⟩
    · rw [if_neg e] at t1
      refine .inr ⟨fun h' hh' e' => ?_, start _ ⟨_, t1, rfl⟩⟩
      have := only h' hh' e'
      have : h' = h := by omega
      subst this
      exact e e'
  · refine .inr ⟨fun h hh e => ?_, start _ ⟨_, kind_bad (by omega), rfl⟩⟩
    have := only h hh e
    omega
end VL
set_option maxRecDepth 100000
set_option maxHeartbeats 1000000
namespace VL
open PySem PySem.Spec PyProof.Rows L2
/-! ### the law -/
theorem is10 : isub 1 0 = some true := rfl
theorem is11 : isub 1 1 = some true := rfl
theorem is12 : isub 1 2 = some false := rfl
theorem is20 : isub 2 0 = some true := rfl
theorem is21 : isub 2 1 = some false := rfl
theorem is22 : isub 2 2 = some true := rfl
theorem refused_ok {o : D} {b : Int} (hb : b < 0 ∨ 25 < b) : f__law_refused [o, .int b] = .ok (.bl true) := by
  have e := tree_bad (o := o) hb
  refine fnV_rt ?_
  unfold g__law_refused g__law_refused_y1
  simp -implicitDefEqProofs only [fnV, fnN, finV, finN, startE, gSeq, gLet, gSet, gSetN, gRet, gRetN, gRetO, gRet0, gDrop, gIf, gNext, gOwn, gFreeze, gFor, gUnp, gPar, gSetIx, gBreak, gCont, dVar, dPeek, dC, dNew, dBin, dBinN, dUn, dBl, dIf, dAnd, dOr, dNot, dAndV, dOrV, dOfB, dNil, dCons, dStar, items_l, dCall, dCallP, dCallPN, rScal_i, rScal_b, rScal_n, rScalL_i, rScalL_N, gErr, gTryAs, gTry, gIsE, clean, dCB, dCBN, dTru, dTup, dLst, dPair, dSl, oNone, oSome, ofO, dChain, chK, dIList, dITup, dRng, dLc, wipeE, R.bind_ok, R.bind_er, R.bind_no, fName, fTup, fSeq, items, gzipU_l, gzipU_c, gzipU_t, dISeq, fCons, fNil, fLst, oTru, gAdd_i, gSub_i, gLt_i, gLe_i, gGt_i, gGe_i, gEq_i, gNe_i, gAnd_i, gOr_i, gXor_i, gLen_l, gLen_r, gLen_t, gLen_c, gIsi_e, tyD, kb_int_int, kb_int_bool, kb_int_list, kb_int_tuple, kb_bool_int, kb_bool_bool, kb_bool_list, kb_list_list, kb_list_int, kb_list_bool, kb_list_tuple, kb_tuple_tuple, kb_tuple_list, kb_tuple_int, kb_str_str, kb_str_int, kb_str_list, kb_non_list, kb_non_int, gList_l, gList_r, gList_t, gList_c, gzip_l, genum_l, genumU_l, genumU_c, genumU_t, gInt_i, gInt_b, gAbs_i, List.getElem?_cons_zero, List.getElem?_cons_succ, List.set_cons_zero, List.set_cons_succ, List.map_cons, List.map_nil, List.length_cons, List.length_nil, iL_len, Nat.reduceAdd, Nat.reduceSub, List.replicate_succ, List.replicate_zero, List.cons_append, List.nil_append, Nat.zero_add, Option.bind_some, Option.map_some, if_true, if_false, Bool.false_eq_true, Bool.not_true, Bool.not_false, eq_self, reduceCtorEq, Nat.sub_self, List.append_nil, dMake, e, is10, is11, is12, noX]
theorem no_once_ok {code once : Int} (h : f_one_time_of [.int once] = .er 2) : f__law_no_once [.int code, .int once] = .ok (.bl true) := by
  have e : f_tree_kind_of [.int code, .int once] = .er 2 := by
    unfold f_tree_kind_of g_tree_kind_of
    simp -implicitDefEqProofs only [fnV, fnN, finV, finN, startE, gSeq, gLet, gSet, gSetN, gRet, gRetN, gRetO, gRet0, gDrop, gIf, gNext, gOwn, gFreeze, gFor, gUnp, gPar, gSetIx, gBreak, gCont, dVar, dPeek, dC, dNew, dBin, dBinN, dUn, dBl, dIf, dAnd, dOr, dNot, dAndV, dOrV, dOfB, dNil, dCons, dStar, items_l, dCall, dCallP, dCallPN, rScal_i, rScal_b, rScal_n, rScalL_i, rScalL_N, gErr, gTryAs, gTry, gIsE, clean, dCB, dCBN, dTru, dTup, dLst, dPair, dSl, oNone, oSome, ofO, dChain, chK, dIList, dITup, dRng, dLc, wipeE, R.bind_ok, R.bind_er, R.bind_no, fName, fTup, fSeq, items, gzipU_l, gzipU_c, gzipU_t, dISeq, fCons, fNil, fLst, oTru, gAdd_i, gSub_i, gLt_i, gLe_i, gGt_i, gGe_i, gEq_i, gNe_i, gAnd_i, gOr_i, gXor_i, gLen_l, gLen_r, gLen_t, gLen_c, gIsi_e, tyD, kb_int_int, kb_int_bool, kb_int_list, kb_int_tuple, kb_bool_int, kb_bool_bool, kb_bool_list, kb_list_list, kb_list_int, kb_list_bool, kb_list_tuple, kb_tuple_tuple, kb_tuple_list, kb_tuple_int, kb_str_str, kb_str_int, kb_str_list, kb_non_list, kb_non_int, gList_l, gList_r, gList_t, gList_c, gzip_l, genum_l, genumU_l, genumU_c, genumU_t, gInt_i, gInt_b, gAbs_i, List.getElem?_cons_zero, List.getElem?_cons_succ, List.set_cons_zero, List.set_cons_succ, List.map_cons, List.map_nil, List.length_cons, List.length_nil, iL_len, Nat.reduceAdd, Nat.reduceSub, List.replicate_succ, List.replicate_zero, List.cons_append, List.nil_append, Nat.zero_add, Option.bind_some, Option.map_some, if_true, if_false, Bool.false_eq_true, Bool.not_true, Bool.not_false, eq_self, reduceCtorEq, Nat.sub_self, List.append_nil, h]
  refine fnV_rt ?_
  unfold g__law_no_once g__law_no_once_y1
  simp -implicitDefEqProofs only [fnV, fnN, finV, finN, startE, gSeq, gLet, gSet, gSetN, gRet, gRetN, gRetO, gRet0, gDrop, gIf, gNext, gOwn, gFreeze, gFor, gUnp, gPar, gSetIx, gBreak, gCont, dVar, dPeek, dC, dNew, dBin, dBinN, dUn, dBl, dIf, dAnd, dOr, dNot, dAndV, dOrV, dOfB, dNil, dCons, dStar, items_l, dCall, dCallP, dCallPN, rScal_i, rScal_b, rScal_n, rScalL_i, rScalL_N, gErr, gTryAs, gTry, gIsE, clean, dCB, dCBN, dTru, dTup, dLst, dPair, dSl, oNone, oSome, ofO, dChain, chK, dIList, dITup, dRng, dLc, wipeE, R.bind_ok, R.bind_er, R.bind_no, fName, fTup, fSeq, items, gzipU_l, gzipU_c, gzipU_t, dISeq, fCons, fNil, fLst, oTru, gAdd_i, gSub_i, gLt_i, gLe_i, gGt_i, gGe_i, gEq_i, gNe_i, gAnd_i, gOr_i, gXor_i, gLen_l, gLen_r, gLen_t, gLen_c, gIsi_e, tyD, kb_int_int, kb_int_bool, kb_int_list, kb_int_tuple, kb_bool_int, kb_bool_bool, kb_bool_list, kb_list_list, kb_list_int, kb_list_bool, kb_list_tuple, kb_tuple_tuple, kb_tuple_list, kb_tuple_int, kb_str_str, kb_str_int, kb_str_list, kb_non_list, kb_non_int, gList_l, gList_r, gList_t, gList_c, gzip_l, genum_l, genumU_l, genumU_c, genumU_t, gInt_i, gInt_b, gAbs_i, List.getElem?_cons_zero, List.getElem?_cons_succ, List.set_cons_zero, List.set_cons_succ, List.map_cons, List.map_nil, List.length_cons, List.length_nil, iL_len, Nat.reduceAdd, Nat.reduceSub, List.replicate_succ, List.replicate_zero, List.cons_append, List.nil_append, Nat.zero_add, Option.bind_some, Option.map_some, if_true, if_false, Bool.false_eq_true, Bool.not_true, Bool.not_false, eq_self, reduceCtorEq, Nat.sub_self, List.append_nil, e, is20, is21, is22, noX]
theorem read_ok {c s j : Nat} (O : One c s j) (hs : s ≤ 32) (code : Int) : f__law_read [.int code, .int (c : Nat), .int (s : Nat), .int ((2 ^ j : Nat) : Int)] = .ok (.bl true) := by
  have K := kind_ok O hs code
  have o2 := O.o2
  have l1 := O.l1
  have l3 := O.l3
  generalize oneF c s j = fs1 at *
  generalize onceI c s j = on at *
  generalize 2 ^ j = w at *
  obtain ⟨L, hL⟩ : ∃ L : List Nat, L = (List.range 26).filter fun h => ((codeI c s h : Nat) : Int) == code := ⟨_, rfl⟩
  have lcx : dLc [7] (dRng (dCons (dC (.int 26)) dNil)) (fName 7) (dBl (dBin gEq (dCall (f__law_code) (dCons (dVar 1) (dCons (dVar 2) (dCons (dVar 7) dNil)))) (dPeek 0))) (dVar 7) [.v (.int code), .v (.int (c : Nat)), .v (.int (s : Nat)), .v (.int (w : Nat)), .un, .un, .un, .un] = .ok (L.map fun (i : Nat) => D.int (i : Int)) := by
    have d1 := dRng_1 (n := 26) (f := dCons (dC (.int 26)) dNil) (ρ := [.v (.int code), .v (.int (c : Nat)), .v (.int (s : Nat)), .v (.int (w : Nat)), .un, .un, .un, .un]) rfl (by decide)
    rw [rngD_0] at d1
    rw [hL]
    refine lc_ok d1 (by simp) ?_
    refine lc_filter (fun (i : Nat) => D.int (i : Int)) (fun (i : Nat) => D.int (i : Int)) (fun h => ((codeI c s h : Nat) : Int) == code) (List.range 26) (fun x hx => ⟨[.v (.int code), .v (.int (c : Nat)), .v (.int (s : Nat)), .v (.int (w : Nat)), .un, .un, .un, .v (.int (x : Nat))], rfl, ?_, rfl⟩)
    have lc := law_code_ok (c := c) (s := s) (List.mem_range.mp hx)
    generalize codeI c s x = co at *
    simp -implicitDefEqProofs only [fnV, fnN, finV, finN, startE, gSeq, gLet, gSet, gSetN, gRet, gRetN, gRetO, gRet0, gDrop, gIf, gNext, gOwn, gFreeze, gFor, gUnp, gPar, gSetIx, gBreak, gCont, dVar, dPeek, dC, dNew, dBin, dBinN, dUn, dBl, dIf, dAnd, dOr, dNot, dAndV, dOrV, dOfB, dNil, dCons, dStar, items_l, dCall, dCallP, dCallPN, rScal_i, rScal_b, rScal_n, rScalL_i, rScalL_N, gErr, gTryAs, gTry, gIsE, clean, dCB, dCBN, dTru, dTup, dLst, dPair, dSl, oNone, oSome, ofO, dChain, chK, dIList, dITup, dRng, dLc, wipeE, R.bind_ok, R.bind_er, R.bind_no, fName, fTup, fSeq, items, gzipU_l, gzipU_c, gzipU_t, dISeq, fCons, fNil, fLst, oTru, gAdd_i, gSub_i, gLt_i, gLe_i, gGt_i, gGe_i, gEq_i, gNe_i, gAnd_i, gOr_i, gXor_i, gLen_l, gLen_r, gLen_t, gLen_c, gIsi_e, tyD, kb_int_int, kb_int_bool, kb_int_list, kb_int_tuple, kb_bool_int, kb_bool_bool, kb_bool_list, kb_list_list, kb_list_int, kb_list_bool, kb_list_tuple, kb_tuple_tuple, kb_tuple_list, kb_tuple_int, kb_str_str, kb_str_int, kb_str_list, kb_non_list, kb_non_int, gList_l, gList_r, gList_t, gList_c, gzip_l, genum_l, genumU_l, genumU_c, genumU_t, gInt_i, gInt_b, gAbs_i, List.getElem?_cons_zero, List.getElem?_cons_succ, List.set_cons_zero, List.set_cons_succ, List.map_cons, List.map_nil, List.length_cons, List.length_nil, iL_len, Nat.reduceAdd, Nat.reduceSub, List.replicate_succ, List.replicate_zero, List.cons_append, List.nil_append, Nat.zero_add, Option.bind_some, Option.map_some, if_true, if_false, Bool.false_eq_true, Bool.not_true, Bool.not_false, eq_self, reduceCtorEq, Nat.sub_self, List.append_nil, lc]
  have len : gLen [.lst (L.map fun (i : Nat) => D.int (i : Int))] = some (.int (L.length : Nat)) := by rw [gLen_l, List.length_map]
  refine fnV_rt ?_
  unfold g__law_read
  generalize dLc [7] (dRng (dCons (dC (.int 26)) dNil)) (fName 7) (dBl (dBin gEq (dCall (f__law_code) (dCons (dVar 1) (dCons (dVar 2) (dCons (dVar 7) dNil)))) (dPeek 0))) (dVar 7) = F at lcx ⊢
  rcases K with ⟨h, hh, e, k⟩ | ⟨no, k⟩
  · have th : decide ((0 : Int) < ((L.length : Nat) : Int)) = true := decide_eq_true (by
      have : h ∈ L := by rw [hL, List.mem_filter]; exact ⟨List.mem_range.mpr hh, by rw [beq_iff_eq]; exact e⟩
      have := List.length_pos_of_mem this
      omega)
    have fo := fields_ok (w := w) l1 l3 hh
    have t3 : (treeG c s h fs1).lookup ("code" : Str) = some (.int (codeI c s h : Nat)) := rfl
    have t1 : (treeG c s h fs1).lookup ("height" : Str) = some (.int (h : Nat)) := rfl
    have b : (((codeI c s h : Nat) : Int) == code) = true := by rw [beq_iff_eq]; exact e
    generalize treeG c s h fs1 = tf at *
    generalize codeI c s h = co at *
    refine (seq_nx (by (simp -implicitDefEqProofs only [fnV, fnN, finV, finN, startE, gSeq, gLet, gSet, gSetN, gRet, gRetN, gRetO, gRet0, gDrop, gIf, gNext, gOwn, gFreeze, gFor, gUnp, gPar, gSetIx, gBreak, gCont, dVar, dPeek, dC, dNew, dBin, dBinN, dUn, dBl, dIf, dAnd, dOr, dNot, dAndV, dOrV, dOfB, dNil, dCons, dStar, items_l, dCall, dCallP, dCallPN, rScal_i, rScal_b, rScal_n, rScalL_i, rScalL_N, gErr, gTryAs, gTry, gIsE, clean, dCB, dCBN, dTru, dTup, dLst, dPair, dSl, oNone, oSome, ofO, dChain, chK, dIList, dITup, dRng, dLc, wipeE, R.bind_ok, R.bind_er, R.bind_no, fName, fTup, fSeq, items, gzipU_l, gzipU_c, gzipU_t, dISeq, fCons, fNil, fLst, oTru, gAdd_i, gSub_i, gLt_i, gLe_i, gGt_i, gGe_i, gEq_i, gNe_i, gAnd_i, gOr_i, gXor_i, gLen_l, gLen_r, gLen_t, gLen_c, gIsi_e, tyD, kb_int_int, kb_int_bool, kb_int_list, kb_int_tuple, kb_bool_int, kb_bool_bool, kb_bool_list, kb_list_list, kb_list_int, kb_list_bool, kb_list_tuple, kb_tuple_tuple, kb_tuple_list, kb_tuple_int, kb_str_str, kb_str_int, kb_str_list, kb_non_list, kb_non_int, gList_l, gList_r, gList_t, gList_c, gzip_l, genum_l, genumU_l, genumU_c, genumU_t, gInt_i, gInt_b, gAbs_i, List.getElem?_cons_zero, List.getElem?_cons_succ, List.set_cons_zero, List.set_cons_succ, List.map_cons, List.map_nil, List.length_cons, List.length_nil, iL_len, Nat.reduceAdd, Nat.reduceSub, List.replicate_succ, List.replicate_zero, List.cons_append, List.nil_append, Nat.zero_add, Option.bind_some, Option.map_some, if_true, if_false, Bool.false_eq_true, Bool.not_true, Bool.not_false, eq_self, reduceCtorEq, Nat.sub_self, List.append_nil, lcx, len, th]) <;> rfl)).trans ?_
    unfold g__law_read_y1
    refine (seq_nx (by (simp -implicitDefEqProofs only [fnV, fnN, finV, finN, startE, gSeq, gLet, gSet, gSetN, gRet, gRetN, gRetO, gRet0, gDrop, gIf, gNext, gOwn, gFreeze, gFor, gUnp, gPar, gSetIx, gBreak, gCont, dVar, dPeek, dC, dNew, dBin, dBinN, dUn, dBl, dIf, dAnd, dOr, dNot, dAndV, dOrV, dOfB, dNil, dCons, dStar, items_l, dCall, dCallP, dCallPN, rScal_i, rScal_b, rScal_n, rScalL_i, rScalL_N, gErr, gTryAs, gTry, gIsE, clean, dCB, dCBN, dTru, dTup, dLst, dPair, dSl, oNone, oSome, ofO, dChain, chK, dIList, dITup, dRng, dLc, wipeE, R.bind_ok, R.bind_er, R.bind_no, fName, fTup, fSeq, items, gzipU_l, gzipU_c, gzipU_t, dISeq, fCons, fNil, fLst, oTru, gAdd_i, gSub_i, gLt_i, gLe_i, gGt_i, gGe_i, gEq_i, gNe_i, gAnd_i, gOr_i, gXor_i, gLen_l, gLen_r, gLen_t, gLen_c, gIsi_e, tyD, kb_int_int, kb_int_bool, kb_int_list, kb_int_tuple, kb_bool_int, kb_bool_bool, kb_bool_list, kb_list_list, kb_list_int, kb_list_bool, kb_list_tuple, kb_tuple_tuple, kb_tuple_list, kb_tuple_int, kb_str_str, kb_str_int, kb_str_list, kb_non_list, kb_non_int, gList_l, gList_r, gList_t, gList_c, gzip_l, genum_l, genumU_l, genumU_c, genumU_t, gInt_i, gInt_b, gAbs_i, List.getElem?_cons_zero, List.getElem?_cons_succ, List.set_cons_zero, List.set_cons_succ, List.map_cons, List.map_nil, List.length_cons, List.length_nil, iL_len, Nat.reduceAdd, Nat.reduceSub, List.replicate_succ, List.replicate_zero, List.cons_append, List.nil_append, Nat.zero_add, Option.bind_some, Option.map_some, if_true, if_false, Bool.false_eq_true, Bool.not_true, Bool.not_false, eq_self, reduceCtorEq, Nat.sub_self, List.append_nil, o2, k]) <;> rfl)).trans ?_
    simp -implicitDefEqProofs only [fnV, fnN, finV, finN, startE, gSeq, gLet, gSet, gSetN, gRet, gRetN, gRetO, gRet0, gDrop, gIf, gNext, gOwn, gFreeze, gFor, gUnp, gPar, gSetIx, gBreak, gCont, dVar, dPeek, dC, dNew, dBin, dBinN, dUn, dBl, dIf, dAnd, dOr, dNot, dAndV, dOrV, dOfB, dNil, dCons, dStar, items_l, dCall, dCallP, dCallPN, rScal_i, rScal_b, rScal_n, rScalL_i, rScalL_N, gErr, gTryAs, gTry, gIsE, clean, dCB, dCBN, dTru, dTup, dLst, dPair, dSl, oNone, oSome, ofO, dChain, chK, dIList, dITup, dRng, dLc, wipeE, R.bind_ok, R.bind_er, R.bind_no, fName, fTup, fSeq, items, gzipU_l, gzipU_c, gzipU_t, dISeq, fCons, fNil, fLst, oTru, gAdd_i, gSub_i, gLt_i, gLe_i, gGt_i, gGe_i, gEq_i, gNe_i, gAnd_i, gOr_i, gXor_i, gLen_l, gLen_r, gLen_t, gLen_c, gIsi_e, tyD, kb_int_int, kb_int_bool, kb_int_list, kb_int_tuple, kb_bool_int, kb_bool_bool, kb_bool_list, kb_list_list, kb_list_int, kb_list_bool, kb_list_tuple, kb_tuple_tuple, kb_tuple_list, kb_tuple_int, kb_str_str, kb_str_int, kb_str_list, kb_non_list, kb_non_int, gList_l, gList_r, gList_t, gList_c, gzip_l, genum_l, genumU_l, genumU_c, genumU_t, gInt_i, gInt_b, gAbs_i, List.getElem?_cons_zero, List.getElem?_cons_succ, List.set_cons_zero, List.set_cons_succ, List.map_cons, List.map_nil, List.length_cons, List.length_nil, iL_len, Nat.reduceAdd, Nat.reduceSub, List.replicate_succ, List.replicate_zero, List.cons_append, List.nil_append, Nat.zero_add, Option.bind_some, Option.map_some, if_true, if_false, Bool.false_eq_true, Bool.not_true, Bool.not_false, eq_self, reduceCtorEq, Nat.sub_self, List.append_nil, dFld, k_code5, k_height, t3, t1, b, fo]
  · have th : decide ((0 : Int) < ((L.length : Nat) : Int)) = false := decide_eq_false (by
      have : L = [] := by
        rw [hL, List.filter_eq_nil_iff]
        intro h hh
        rw [beq_iff_eq]
        exact no h (List.mem_range.mp hh)
      rw [this]
      simp)
    refine (seq_nx (by (simp -implicitDefEqProofs only [fnV, fnN, finV, finN, startE, gSeq, gLet, gSet, gSetN, gRet, gRetN, gRetO, gRet0, gDrop, gIf, gNext, gOwn, gFreeze, gFor, gUnp, gPar, gSetIx, gBreak, gCont, dVar, dPeek, dC, dNew, dBin, dBinN, dUn, dBl, dIf, dAnd, dOr, dNot, dAndV, dOrV, dOfB, dNil, dCons, dStar, items_l, dCall, dCallP, dCallPN, rScal_i, rScal_b, rScal_n, rScalL_i, rScalL_N, gErr, gTryAs, gTry, gIsE, clean, dCB, dCBN, dTru, dTup, dLst, dPair, dSl, oNone, oSome, ofO, dChain, chK, dIList, dITup, dRng, dLc, wipeE, R.bind_ok, R.bind_er, R.bind_no, fName, fTup, fSeq, items, gzipU_l, gzipU_c, gzipU_t, dISeq, fCons, fNil, fLst, oTru, gAdd_i, gSub_i, gLt_i, gLe_i, gGt_i, gGe_i, gEq_i, gNe_i, gAnd_i, gOr_i, gXor_i, gLen_l, gLen_r, gLen_t, gLen_c, gIsi_e, tyD, kb_int_int, kb_int_bool, kb_int_list, kb_int_tuple, kb_bool_int, kb_bool_bool, kb_bool_list, kb_list_list, kb_list_int, kb_list_bool, kb_list_tuple, kb_tuple_tuple, kb_tuple_list, kb_tuple_int, kb_str_str, kb_str_int, kb_str_list, kb_non_list, kb_non_int, gList_l, gList_r, gList_t, gList_c, gzip_l, genum_l, genumU_l, genumU_c, genumU_t, gInt_i, gInt_b, gAbs_i, List.getElem?_cons_zero, List.getElem?_cons_succ, List.set_cons_zero, List.set_cons_succ, List.map_cons, List.map_nil, List.length_cons, List.length_nil, iL_len, Nat.reduceAdd, Nat.reduceSub, List.replicate_succ, List.replicate_zero, List.cons_append, List.nil_append, Nat.zero_add, Option.bind_some, Option.map_some, if_true, if_false, Bool.false_eq_true, Bool.not_true, Bool.not_false, eq_self, reduceCtorEq, Nat.sub_self, List.append_nil, lcx, len, th]) <;> rfl)).trans ?_
    unfold g__law_read_y1
    simp -implicitDefEqProofs only [fnV, fnN, finV, finN, startE, gSeq, gLet, gSet, gSetN, gRet, gRetN, gRetO, gRet0, gDrop, gIf, gNext, gOwn, gFreeze, gFor, gUnp, gPar, gSetIx, gBreak, gCont, dVar, dPeek, dC, dNew, dBin, dBinN, dUn, dBl, dIf, dAnd, dOr, dNot, dAndV, dOrV, dOfB, dNil, dCons, dStar, items_l, dCall, dCallP, dCallPN, rScal_i, rScal_b, rScal_n, rScalL_i, rScalL_N, gErr, gTryAs, gTry, gIsE, clean, dCB, dCBN, dTru, dTup, dLst, dPair, dSl, oNone, oSome, ofO, dChain, chK, dIList, dITup, dRng, dLc, wipeE, R.bind_ok, R.bind_er, R.bind_no, fName, fTup, fSeq, items, gzipU_l, gzipU_c, gzipU_t, dISeq, fCons, fNil, fLst, oTru, gAdd_i, gSub_i, gLt_i, gLe_i, gGt_i, gGe_i, gEq_i, gNe_i, gAnd_i, gOr_i, gXor_i, gLen_l, gLen_r, gLen_t, gLen_c, gIsi_e, tyD, kb_int_int, kb_int_bool, kb_int_list, kb_int_tuple, kb_bool_int, kb_bool_bool, kb_bool_list, kb_list_list, kb_list_int, kb_list_bool, kb_list_tuple, kb_tuple_tuple, kb_tuple_list, kb_tuple_int, kb_str_str, kb_str_int, kb_str_list, kb_non_list, kb_non_int, gList_l, gList_r, gList_t, gList_c, gzip_l, genum_l, genumU_l, genumU_c, genumU_t, gInt_i, gInt_b, gAbs_i, List.getElem?_cons_zero, List.getElem?_cons_succ, List.set_cons_zero, List.set_cons_succ, List.map_cons, List.map_nil, List.length_cons, List.length_nil, iL_len, Nat.reduceAdd, Nat.reduceSub, List.replicate_succ, List.replicate_zero, List.cons_append, List.nil_append, Nat.zero_add, Option.bind_some, Option.map_some, if_true, if_false, Bool.false_eq_true, Bool.not_true, Bool.not_false, eq_self, reduceCtorEq, Nat.sub_self, List.append_nil, o2, k, is20, is21, is22, noX]
theorem w_ix (k : Nat) (hk : (k : Int) < 4) : gIx (.lst [.int 1, .int 2, .int 4, .int 8]) (.int (k : Nat)) = some (.int ((2 ^ k : Nat) : Int)) := by
  match k, hk with
  | 0, _ => rfl
  | 1, _ => rfl
  | 2, _ => rfl
  | 3, _ => rfl
  | k + 4, h => exact absurd h (by omega)
theorem six_ix (a b c d e f : Int) (k : Nat) (hk : (k : Int) < 6) : ∃ x : Int, gIx (.lst [.int a, .int b, .int c, .int d, .int e, .int f]) (.int (k : Nat)) = some (.int x) := by
  match k, hk with
  | 0, _ => exact ⟨a, rfl⟩
  | 1, _ => exact ⟨b, rfl⟩
  | 2, _ => exact ⟨c, rfl⟩
  | 3, _ => exact ⟨d, rfl⟩
  | 4, _ => exact ⟨e, rfl⟩
  | 5, _ => exact ⟨f, rfl⟩
  | k + 6, h => exact absurd h (by omega)
theorem gNeg_i (i : Int) : gNeg (.int i) = some (.int (-i)) := rfl
theorem bad_turn {fs1 : List (Str × D)} (A B C E F K' : Sl) (b : Int) (hb : b < 0 ∨ 25 < b) (G H I : Sl) :
    g_law_b1 [A, B, C, E, F, K', .v (.obj 4 fs1), G, .v (.int b), .un, .un, .un] = .nx [A, B, C, E, F, K', .v (.obj 4 fs1), G, .v (.int b), .un, .un, .un] := by
  have r := refused_ok (o := .obj 4 fs1) hb
  unfold g_law_b1
  simp -implicitDefEqProofs only [fnV, fnN, finV, finN, startE, gSeq, gLet, gSet, gSetN, gRet, gRetN, gRetO, gRet0, gDrop, gIf, gNext, gOwn, gFreeze, gFor, gUnp, gPar, gSetIx, gBreak, gCont, dVar, dPeek, dC, dNew, dBin, dBinN, dUn, dBl, dIf, dAnd, dOr, dNot, dAndV, dOrV, dOfB, dNil, dCons, dStar, items_l, dCall, dCallP, dCallPN, rScal_i, rScal_b, rScal_n, rScalL_i, rScalL_N, gErr, gTryAs, gTry, gIsE, clean, dCB, dCBN, dTru, dTup, dLst, dPair, dSl, oNone, oSome, ofO, dChain, chK, dIList, dITup, dRng, dLc, wipeE, R.bind_ok, R.bind_er, R.bind_no, fName, fTup, fSeq, items, gzipU_l, gzipU_c, gzipU_t, dISeq, fCons, fNil, fLst, oTru, gAdd_i, gSub_i, gLt_i, gLe_i, gGt_i, gGe_i, gEq_i, gNe_i, gAnd_i, gOr_i, gXor_i, gLen_l, gLen_r, gLen_t, gLen_c, gIsi_e, tyD, kb_int_int, kb_int_bool, kb_int_list, kb_int_tuple, kb_bool_int, kb_bool_bool, kb_bool_list, kb_list_list, kb_list_int, kb_list_bool, kb_list_tuple, kb_tuple_tuple, kb_tuple_list, kb_tuple_int, kb_str_str, kb_str_int, kb_str_list, kb_non_list, kb_non_int, gList_l, gList_r, gList_t, gList_c, gzip_l, genum_l, genumU_l, genumU_c, genumU_t, gInt_i, gInt_b, gAbs_i, List.getElem?_cons_zero, List.getElem?_cons_succ, List.set_cons_zero, List.set_cons_succ, List.map_cons, List.map_nil, List.length_cons, List.length_nil, iL_len, Nat.reduceAdd, Nat.reduceSub, List.replicate_succ, List.replicate_zero, List.cons_append, List.nil_append, Nat.zero_add, Option.bind_some, Option.map_some, if_true, if_false, Bool.false_eq_true, Bool.not_true, Bool.not_false, eq_self, reduceCtorEq, Nat.sub_self, List.append_nil, r]
theorem code_turn {c s j c2 s2 j2 : Nat} {o code : Int} (A B K' G H I J : Sl)
    (R1 : f__law_read [.int code, .int (c : Nat), .int (s : Nat), .int ((2 ^ j : Nat) : Int)] = .ok (.bl true)) (R2 : f__law_read [.int code, .int (c2 : Nat), .int (s2 : Nat), .int ((2 ^ j2 : Nat) : Int)] = .ok (.bl true))
    (h1 : o / 7 % 2 = (c2 : Nat)) (h2 : (1 : Int) + o / 14 % 32 = (s2 : Nat)) (h3 : o / 448 % 4 = (j2 : Nat)) (hj : (j2 : Int) < 4) :
    g_law_b2 [A, B, .v (.int (c : Nat)), .v (.int (s : Nat)), .v (.int ((2 ^ j : Nat) : Int)), K', G, H, I, .v (.int o), J, .v (.int code)] = .nx [A, B, .v (.int (c : Nat)), .v (.int (s : Nat)), .v (.int ((2 ^ j : Nat) : Int)), K', G, H, I, .v (.int o), J, .v (.int code)] := by
  have ix := w_ix j2 hj
  generalize 2 ^ j = w at *
  generalize 2 ^ j2 = w2 at *
  unfold g_law_b2
  refine (seq_nx (by (simp -implicitDefEqProofs only [fnV, fnN, finV, finN, startE, gSeq, gLet, gSet, gSetN, gRet, gRetN, gRetO, gRet0, gDrop, gIf, gNext, gOwn, gFreeze, gFor, gUnp, gPar, gSetIx, gBreak, gCont, dVar, dPeek, dC, dNew, dBin, dBinN, dUn, dBl, dIf, dAnd, dOr, dNot, dAndV, dOrV, dOfB, dNil, dCons, dStar, items_l, dCall, dCallP, dCallPN, rScal_i, rScal_b, rScal_n, rScalL_i, rScalL_N, gErr, gTryAs, gTry, gIsE, clean, dCB, dCBN, dTru, dTup, dLst, dPair, dSl, oNone, oSome, ofO, dChain, chK, dIList, dITup, dRng, dLc, wipeE, R.bind_ok, R.bind_er, R.bind_no, fName, fTup, fSeq, items, gzipU_l, gzipU_c, gzipU_t, dISeq, fCons, fNil, fLst, oTru, gAdd_i, gSub_i, gLt_i, gLe_i, gGt_i, gGe_i, gEq_i, gNe_i, gAnd_i, gOr_i, gXor_i, gLen_l, gLen_r, gLen_t, gLen_c, gIsi_e, tyD, kb_int_int, kb_int_bool, kb_int_list, kb_int_tuple, kb_bool_int, kb_bool_bool, kb_bool_list, kb_list_list, kb_list_int, kb_list_bool, kb_list_tuple, kb_tuple_tuple, kb_tuple_list, kb_tuple_int, kb_str_str, kb_str_int, kb_str_list, kb_non_list, kb_non_int, gList_l, gList_r, gList_t, gList_c, gzip_l, genum_l, genumU_l, genumU_c, genumU_t, gInt_i, gInt_b, gAbs_i, List.getElem?_cons_zero, List.getElem?_cons_succ, List.set_cons_zero, List.set_cons_succ, List.map_cons, List.map_nil, List.length_cons, List.length_nil, iL_len, Nat.reduceAdd, Nat.reduceSub, List.replicate_succ, List.replicate_zero, List.cons_append, List.nil_append, Nat.zero_add, Option.bind_some, Option.map_some, if_true, if_false, Bool.false_eq_true, Bool.not_true, Bool.not_false, eq_self, reduceCtorEq, Nat.sub_self, List.append_nil, R1]) <;> rfl)).trans ?_
  simp -implicitDefEqProofs only [fnV, fnN, finV, finN, startE, gSeq, gLet, gSet, gSetN, gRet, gRetN, gRetO, gRet0, gDrop, gIf, gNext, gOwn, gFreeze, gFor, gUnp, gPar, gSetIx, gBreak, gCont, dVar, dPeek, dC, dNew, dBin, dBinN, dUn, dBl, dIf, dAnd, dOr, dNot, dAndV, dOrV, dOfB, dNil, dCons, dStar, items_l, dCall, dCallP, dCallPN, rScal_i, rScal_b, rScal_n, rScalL_i, rScalL_N, gErr, gTryAs, gTry, gIsE, clean, dCB, dCBN, dTru, dTup, dLst, dPair, dSl, oNone, oSome, ofO, dChain, chK, dIList, dITup, dRng, dLc, wipeE, R.bind_ok, R.bind_er, R.bind_no, fName, fTup, fSeq, items, gzipU_l, gzipU_c, gzipU_t, dISeq, fCons, fNil, fLst, oTru, gAdd_i, gSub_i, gLt_i, gLe_i, gGt_i, gGe_i, gEq_i, gNe_i, gAnd_i, gOr_i, gXor_i, gLen_l, gLen_r, gLen_t, gLen_c, gIsi_e, tyD, kb_int_int, kb_int_bool, kb_int_list, kb_int_tuple, kb_bool_int, kb_bool_bool, kb_bool_list, kb_list_list, kb_list_int, kb_list_bool, kb_list_tuple, kb_tuple_tuple, kb_tuple_list, kb_tuple_int, kb_str_str, kb_str_int, kb_str_list, kb_non_list, kb_non_int, gList_l, gList_r, gList_t, gList_c, gzip_l, genum_l, genumU_l, genumU_c, genumU_t, gInt_i, gInt_b, gAbs_i, List.getElem?_cons_zero, List.getElem?_cons_succ, List.set_cons_zero, List.set_cons_succ, List.map_cons, List.map_nil, List.length_cons, List.length_nil, iL_len, Nat.reduceAdd, Nat.reduceSub, List.replicate_succ, List.replicate_zero, List.cons_append, List.nil_append, Nat.zero_add, Option.bind_some, Option.map_some, if_true, if_false, Bool.false_eq_true, Bool.not_true, Bool.not_false, eq_self, reduceCtorEq, Nat.sub_self, List.append_nil, gFDiv_s (j := 7) (by decide), gFDiv_s (j := 14) (by decide), gFDiv_s (j := 448) (by decide), gMod_i (j := 2) (by decide), gMod_i (j := 32) (by decide), gMod_i (j := 4) (by decide), h1, h2, h3, sz4, ix, R2]
theorem tail_ok {ns : List Int} {cl : Int} {c s j h c2 s2 j2 t : Nat} {fs1 : List (Str × D)} (l1 : fs1.lookup ("suite" : Str) = some (.obj 3 (suiteF c s))) (X8 : Sl)
    (k1 : f__law_cell [.ro (iL ns), .int 1] = .ok (.int (cell ns 1))) (o : Int) (ho : (if cell ns 1 < 0 then -cell ns 1 else cell ns 1) = o)
    (R1 : ∀ code, f__law_read [.int code, .int (c : Nat), .int (s : Nat), .int ((2 ^ j : Nat) : Int)] = .ok (.bl true)) (R2 : ∀ code, f__law_read [.int code, .int (c2 : Nat), .int (s2 : Nat), .int ((2 ^ j2 : Nat) : Int)] = .ok (.bl true))
    (h1 : o / 7 % 2 = (c2 : Nat)) (h2 : (1 : Int) + o / 14 % 32 = (s2 : Nat)) (h3 : o / 448 % 4 = (j2 : Nat)) (hj : (j2 : Int) < 4) (h5 : (3758096384 : Int) + o % 256 = ((3758096384 + t : Nat) : Int)) (ht : t < 256) :
    g_law_t3 [.v (.ro (iL ns)), .v (.int cl), .v (.int (c : Nat)), .v (.int (s : Nat)), .v (.int ((2 ^ j : Nat) : Int)), .v (.int (h : Nat)), .v (.obj 4 fs1), .v (.obj 5 (treeG c s h fs1)), X8, .un, .un, .un] = .rt (.bl true) := by
  obtain ⟨k6, hk6, hk6'⟩ := toNat_mod o (k := 6) (by decide)
  obtain ⟨x, ix⟩ := six_ix 1 256 65536 (-1) 26 (-256) k6 hk6'
  obtain ⟨y, hy, hy2⟩ := toNat_mod (o / 6) (k := 3) (by decide)
  have mu : gMul (.int x) (.int (y : Nat)) = some (.int (x * (y : Nat))) := gMul_r ⟨by omega, by omega⟩
  have t3 : (treeG c s h fs1).lookup ("code" : Str) = some (.int (codeI c s h : Nat)) := rfl
  have nk := no_chk
  rw [Bool.and_eq_true] at nk
  have n1 := no_once_ok (code := (codeI c s h : Nat)) (once := 0) (isE_ok nk.1)
  have n2 := no_once_ok (code := (codeI c s h : Nat)) (once := ((3758096384 + t : Nat) : Int)) (isE_ok (List.all_eq_true.mp nk.2 t (List.mem_range.mpr ht)))
  generalize treeG c s h fs1 = tf at *
  generalize codeI c s h = co at *
  have ct := fun A B K' G H I J code => code_turn (c := c) (s := s) (j := j) A B K' G H I J (R1 code) (R2 code) h1 h2 h3 hj
  generalize 2 ^ j = w at *
  obtain ⟨L, hL⟩ : ∃ L : List Int, L = [(co : Nat) + x * (y : Nat), o % 12, o, 3892314112 + o % 140000, -o] := ⟨_, rfl⟩
  obtain ⟨j', e⟩ := for_fold (gf := fName 11) (gb := g_law_b2) D.int (fun (_ : Unit) (j : Sl) => [.v (.ro (iL ns)), .v (.int cl), .v (.int (c : Nat)), .v (.int (s : Nat)), .v (.int (w : Nat)), .v (.int (h : Nat)), .v (.obj 4 fs1), .v (.obj 5 tf), X8, .v (.int o), .v (.int ((co : Nat) + x * (y : Nat))), j]) (fun _ _ => ()) L () .un
    (fun b a j hx => ⟨_, .v (.int b), rfl, .inl (ct _ _ _ _ _ _ _ b)⟩)
  unfold g_law_t3
  refine (seq_nx (by (simp -implicitDefEqProofs only [fnV, fnN, finV, finN, startE, gSeq, gLet, gSet, gSetN, gRet, gRetN, gRetO, gRet0, gDrop, gIf, gNext, gOwn, gFreeze, gFor, gUnp, gPar, gSetIx, gBreak, gCont, dVar, dPeek, dC, dNew, dBin, dBinN, dUn, dBl, dIf, dAnd, dOr, dNot, dAndV, dOrV, dOfB, dNil, dCons, dStar, items_l, dCall, dCallP, dCallPN, rScal_i, rScal_b, rScal_n, rScalL_i, rScalL_N, gErr, gTryAs, gTry, gIsE, clean, dCB, dCBN, dTru, dTup, dLst, dPair, dSl, oNone, oSome, ofO, dChain, chK, dIList, dITup, dRng, dLc, wipeE, R.bind_ok, R.bind_er, R.bind_no, fName, fTup, fSeq, items, gzipU_l, gzipU_c, gzipU_t, dISeq, fCons, fNil, fLst, oTru, gAdd_i, gSub_i, gLt_i, gLe_i, gGt_i, gGe_i, gEq_i, gNe_i, gAnd_i, gOr_i, gXor_i, gLen_l, gLen_r, gLen_t, gLen_c, gIsi_e, tyD, kb_int_int, kb_int_bool, kb_int_list, kb_int_tuple, kb_bool_int, kb_bool_bool, kb_bool_list, kb_list_list, kb_list_int, kb_list_bool, kb_list_tuple, kb_tuple_tuple, kb_tuple_list, kb_tuple_int, kb_str_str, kb_str_int, kb_str_list, kb_non_list, kb_non_int, gList_l, gList_r, gList_t, gList_c, gzip_l, genum_l, genumU_l, genumU_c, genumU_t, gInt_i, gInt_b, gAbs_i, List.getElem?_cons_zero, List.getElem?_cons_succ, List.set_cons_zero, List.set_cons_succ, List.map_cons, List.map_nil, List.length_cons, List.length_nil, iL_len, Nat.reduceAdd, Nat.reduceSub, List.replicate_succ, List.replicate_zero, List.cons_append, List.nil_append, Nat.zero_add, Option.bind_some, Option.map_some, if_true, if_false, Bool.false_eq_true, Bool.not_true, Bool.not_false, eq_self, reduceCtorEq, Nat.sub_self, List.append_nil, k1, ho]) <;> rfl)).trans ?_
  refine (seq_nx (by (simp -implicitDefEqProofs only [fnV, fnN, finV, finN, startE, gSeq, gLet, gSet, gSetN, gRet, gRetN, gRetO, gRet0, gDrop, gIf, gNext, gOwn, gFreeze, gFor, gUnp, gPar, gSetIx, gBreak, gCont, dVar, dPeek, dC, dNew, dBin, dBinN, dUn, dBl, dIf, dAnd, dOr, dNot, dAndV, dOrV, dOfB, dNil, dCons, dStar, items_l, dCall, dCallP, dCallPN, rScal_i, rScal_b, rScal_n, rScalL_i, rScalL_N, gErr, gTryAs, gTry, gIsE, clean, dCB, dCBN, dTru, dTup, dLst, dPair, dSl, oNone, oSome, ofO, dChain, chK, dIList, dITup, dRng, dLc, wipeE, R.bind_ok, R.bind_er, R.bind_no, fName, fTup, fSeq, items, gzipU_l, gzipU_c, gzipU_t, dISeq, fCons, fNil, fLst, oTru, gAdd_i, gSub_i, gLt_i, gLe_i, gGt_i, gGe_i, gEq_i, gNe_i, gAnd_i, gOr_i, gXor_i, gLen_l, gLen_r, gLen_t, gLen_c, gIsi_e, tyD, kb_int_int, kb_int_bool, kb_int_list, kb_int_tuple, kb_bool_int, kb_bool_bool, kb_bool_list, kb_list_list, kb_list_int, kb_list_bool, kb_list_tuple, kb_tuple_tuple, kb_tuple_list, kb_tuple_int, kb_str_str, kb_str_int, kb_str_list, kb_non_list, kb_non_int, gList_l, gList_r, gList_t, gList_c, gzip_l, genum_l, genumU_l, genumU_c, genumU_t, gInt_i, gInt_b, gAbs_i, List.getElem?_cons_zero, List.getElem?_cons_succ, List.set_cons_zero, List.set_cons_succ, List.map_cons, List.map_nil, List.length_cons, List.length_nil, iL_len, Nat.reduceAdd, Nat.reduceSub, List.replicate_succ, List.replicate_zero, List.cons_append, List.nil_append, Nat.zero_add, Option.bind_some, Option.map_some, if_true, if_false, Bool.false_eq_true, Bool.not_true, Bool.not_false, eq_self, reduceCtorEq, Nat.sub_self, List.append_nil, dFld, k_code5, t3, gNeg_i, sz6, gMod_i (j := 6) (by decide), hk6, ix, gFDiv_s (j := 6) (by decide), gMod_i (j := 3) (by decide), hy, mu]) <;> rfl)).trans ?_
  refine (seq_nx (for_step (ds := L.map D.int) ?_ e)).trans ?_
  · rw [hL]
    simp -implicitDefEqProofs only [fnV, fnN, finV, finN, startE, gSeq, gLet, gSet, gSetN, gRet, gRetN, gRetO, gRet0, gDrop, gIf, gNext, gOwn, gFreeze, gFor, gUnp, gPar, gSetIx, gBreak, gCont, dVar, dPeek, dC, dNew, dBin, dBinN, dUn, dBl, dIf, dAnd, dOr, dNot, dAndV, dOrV, dOfB, dNil, dCons, dStar, items_l, dCall, dCallP, dCallPN, rScal_i, rScal_b, rScal_n, rScalL_i, rScalL_N, gErr, gTryAs, gTry, gIsE, clean, dCB, dCBN, dTru, dTup, dLst, dPair, dSl, oNone, oSome, ofO, dChain, chK, dIList, dITup, dRng, dLc, wipeE, R.bind_ok, R.bind_er, R.bind_no, fName, fTup, fSeq, items, gzipU_l, gzipU_c, gzipU_t, dISeq, fCons, fNil, fLst, oTru, gAdd_i, gSub_i, gLt_i, gLe_i, gGt_i, gGe_i, gEq_i, gNe_i, gAnd_i, gOr_i, gXor_i, gLen_l, gLen_r, gLen_t, gLen_c, gIsi_e, tyD, kb_int_int, kb_int_bool, kb_int_list, kb_int_tuple, kb_bool_int, kb_bool_bool, kb_bool_list, kb_list_list, kb_list_int, kb_list_bool, kb_list_tuple, kb_tuple_tuple, kb_tuple_list, kb_tuple_int, kb_str_str, kb_str_int, kb_str_list, kb_non_list, kb_non_int, gList_l, gList_r, gList_t, gList_c, gzip_l, genum_l, genumU_l, genumU_c, genumU_t, gInt_i, gInt_b, gAbs_i, List.getElem?_cons_zero, List.getElem?_cons_succ, List.set_cons_zero, List.set_cons_succ, List.map_cons, List.map_nil, List.length_cons, List.length_nil, iL_len, Nat.reduceAdd, Nat.reduceSub, List.replicate_succ, List.replicate_zero, List.cons_append, List.nil_append, Nat.zero_add, Option.bind_some, Option.map_some, if_true, if_false, Bool.false_eq_true, Bool.not_true, Bool.not_false, eq_self, reduceCtorEq, Nat.sub_self, List.append_nil, gMod_i (j := 12) (by decide), gMod_i (j := 140000) (by decide), gNeg_i, sz5]
  simp -implicitDefEqProofs only [fnV, fnN, finV, finN, startE, gSeq, gLet, gSet, gSetN, gRet, gRetN, gRetO, gRet0, gDrop, gIf, gNext, gOwn, gFreeze, gFor, gUnp, gPar, gSetIx, gBreak, gCont, dVar, dPeek, dC, dNew, dBin, dBinN, dUn, dBl, dIf, dAnd, dOr, dNot, dAndV, dOrV, dOfB, dNil, dCons, dStar, items_l, dCall, dCallP, dCallPN, rScal_i, rScal_b, rScal_n, rScalL_i, rScalL_N, gErr, gTryAs, gTry, gIsE, clean, dCB, dCBN, dTru, dTup, dLst, dPair, dSl, oNone, oSome, ofO, dChain, chK, dIList, dITup, dRng, dLc, wipeE, R.bind_ok, R.bind_er, R.bind_no, fName, fTup, fSeq, items, gzipU_l, gzipU_c, gzipU_t, dISeq, fCons, fNil, fLst, oTru, gAdd_i, gSub_i, gLt_i, gLe_i, gGt_i, gGe_i, gEq_i, gNe_i, gAnd_i, gOr_i, gXor_i, gLen_l, gLen_r, gLen_t, gLen_c, gIsi_e, tyD, kb_int_int, kb_int_bool, kb_int_list, kb_int_tuple, kb_bool_int, kb_bool_bool, kb_bool_list, kb_list_list, kb_list_int, kb_list_bool, kb_list_tuple, kb_tuple_tuple, kb_tuple_list, kb_tuple_int, kb_str_str, kb_str_int, kb_str_list, kb_non_list, kb_non_int, gList_l, gList_r, gList_t, gList_c, gzip_l, genum_l, genumU_l, genumU_c, genumU_t, gInt_i, gInt_b, gAbs_i, List.getElem?_cons_zero, List.getElem?_cons_succ, List.set_cons_zero, List.set_cons_succ, List.map_cons, List.map_nil, List.length_cons, List.length_nil, iL_len, Nat.reduceAdd, Nat.reduceSub, List.replicate_succ, List.replicate_zero, List.cons_append, List.nil_append, Nat.zero_add, Option.bind_some, Option.map_some, if_true, if_false, Bool.false_eq_true, Bool.not_true, Bool.not_false, eq_self, reduceCtorEq, Nat.sub_self, List.append_nil, dFld, k_code5, t3, n1, gMod_i (j := 256) (by decide), h5, n2]
theorem law_true (ns : List Int) (h : ns.length ≤ 63) (hb : ∀ z ∈ ns, Builtin.Int.intBits z ≤ 1048576) : f_law [.ro (ns.map .int)] = .ok (.bl true) := by
  rw [← iL_map]
  refine fnV_rt ?_
  have k0 : f__law_cell [.ro (iL ns), .int 0] = .ok (.int (cell ns 0)) := law_cell_ok ns 0
  have k1 : f__law_cell [.ro (iL ns), .int 1] = .ok (.int (cell ns 1)) := law_cell_ok ns 1
  generalize hC : (if cell ns 0 < 0 then -cell ns 0 else cell ns 0) = cl at *
  generalize hO : (if cell ns 1 < 0 then -cell ns 1 else cell ns 1) = o at *
  obtain ⟨c, hc, hc2⟩ := toNat_mod cl (k := 2) (by decide)
  obtain ⟨a, ha, ha2⟩ := toNat_mod (cl / 2) (k := 32) (by decide)
  obtain ⟨j, hj, hj2⟩ := toNat_mod (cl / 256) (k := 4) (by decide)
  obtain ⟨b, hb', hb2⟩ := toNat_mod (cl / 1024) (k := 26) (by decide)
  obtain ⟨d, hd, hd2⟩ := toNat_mod (cl / 1024) (k := 6) (by decide)
  obtain ⟨g, hg, hg2⟩ := toNat_mod (cl / 32768) (k := 2) (by decide)
  obtain ⟨c2, hc3, hc4⟩ := toNat_mod (o / 7) (k := 2) (by decide)
  obtain ⟨a2, ha3, ha4⟩ := toNat_mod (o / 14) (k := 32) (by decide)
  obtain ⟨j2, hj3, hj4⟩ := toNat_mod (o / 448) (k := 4) (by decide)
  obtain ⟨t, ht, ht2⟩ := toNat_mod o (k := 256) (by decide)
  have m99 := Int.emod_nonneg cl (show (99 : Int) ≠ 0 by decide)
  obtain ⟨s, s1, s2, is⟩ : ∃ s : Nat, 1 ≤ s ∧ s ≤ 32 ∧ gIx (.lst [.int (1 + (a : Int)), .int 32]) (.int (if (cl / 64 % 4 == 3) = true then 1 else 0)) = some (.int (s : Nat)) := by
    by_cases z : (cl / 64 % 4 == 3) = true
    · rw [if_pos z]; exact ⟨32, by decide, by decide, rfl⟩
    · rw [if_neg z]; exact ⟨1 + a, by omega, by omega, rfl⟩
  obtain ⟨h', hh, ih⟩ : ∃ h' : Nat, h' < 26 ∧ gIx (.lst [.int (b : Nat), .int (5 * (d : Int))]) (.int (g : Nat)) = some (.int (h' : Nat)) := by
    match g, hg2 with
    | 0, _ => exact ⟨b, by omega, rfl⟩
    | 1, _ => exact ⟨5 * d, by omega, rfl⟩
    | g + 2, h => exact absurd h (by omega)
  have O := one_ok (c := c) (s := s) (j := j) (by omega) s1 s2 (by omega)
  have O2 := one_ok (c := c2) (s := 1 + a2) (j := j2) (by omega) (by omega) (by omega) (by omega)
  have R1 := fun code => read_ok O s2 code
  have R2 := fun code => read_ok O2 (by omega) code
  have su := O.su
  have on := O.on
  have l1 := O.l1
  have l2 := O.l2
  have l3 := O.l3
  have ti := tree_init (c := c) (s := s) l1 hh
  have fo := fields_ok (c := c) (s := s) l1 l3 hh
  have tk : f_tree_kind_of [.int (codeI c s h' : Nat), .int (onceI c s j : Nat)] = .ok (.obj 5 (treeG c s h' (oneF c s j))) := by
    rcases kind_ok O s2 (codeI c s h' : Nat) with ⟨h2, hh2, e, k⟩ | ⟨no, _⟩
    · have := codeI_inj (c := c) (s := s) hh2 hh s2 (by omega)
      subst this
      exact k
    · exact absurd rfl (no h' hh)
  have ta := tail_ok (ns := ns) (cl := cl) (c := c) (s := s) (j := j) (h := h') (t := t) (c2 := c2) (s2 := 1 + a2) (j2 := j2) l1
  have t3 : (treeG c s h' (oneF c s j)).lookup ("code" : Str) = some (.int (codeI c s h' : Nat)) := rfl
  generalize oneF c s j = fs1 at *
  generalize onceI c s j = oi at *
  have ta2 := fun X8 => ta X8 k1 o hO R1 R2 hc3 (show (1 : Int) + o / 14 % 32 = ((1 + a2 : Nat) : Int) by omega) hj3 hj4 (by omega) (by omega)
  have wx := w_ix j hj2
  have m5 : gMul (.int 5) (.int (d : Nat)) = some (.int (5 * (d : Nat))) := gMul_l ⟨by decide, by decide⟩
  have bt := fun A B C E F K' b hb G => bad_turn (fs1 := fs1) A B C E F K' b hb G .un .un
  generalize treeG c s h' fs1 = tf at *
  generalize codeI c s h' = co at *
  generalize 2 ^ j = w at *
  obtain ⟨L, hL⟩ : ∃ L : List Int, L = [-1, 26, 26 + cl % 99, -1 - cl % 99] := ⟨_, rfl⟩
  have hA : ∀ x ∈ L, x < 0 ∨ 25 < x := by
    intro x hx
    rw [hL] at hx
    simp only [List.mem_cons, List.not_mem_nil, or_false] at hx
    omega
  obtain ⟨j', e⟩ := for_fold (gf := fName 8) (gb := g_law_b1) D.int (fun (_ : Unit) (j : Sl) => [.v (.ro (iL ns)), .v (.int cl), .v (.int (c : Nat)), .v (.int (s : Nat)), .v (.int (w : Nat)), .v (.int (h' : Nat)), .v (.obj 4 fs1), .v (.obj 5 tf), j, .un, .un, .un]) (fun _ _ => ()) L () .un
    (fun b a j hx => ⟨_, .v (.int b), rfl, .inl (bt _ _ _ _ _ _ b (hA b hx) _)⟩)
  unfold g_law
  refine (seq_nx (by (simp -implicitDefEqProofs only [fnV, fnN, finV, finN, startE, gSeq, gLet, gSet, gSetN, gRet, gRetN, gRetO, gRet0, gDrop, gIf, gNext, gOwn, gFreeze, gFor, gUnp, gPar, gSetIx, gBreak, gCont, dVar, dPeek, dC, dNew, dBin, dBinN, dUn, dBl, dIf, dAnd, dOr, dNot, dAndV, dOrV, dOfB, dNil, dCons, dStar, items_l, dCall, dCallP, dCallPN, rScal_i, rScal_b, rScal_n, rScalL_i, rScalL_N, gErr, gTryAs, gTry, gIsE, clean, dCB, dCBN, dTru, dTup, dLst, dPair, dSl, oNone, oSome, ofO, dChain, chK, dIList, dITup, dRng, dLc, wipeE, R.bind_ok, R.bind_er, R.bind_no, fName, fTup, fSeq, items, gzipU_l, gzipU_c, gzipU_t, dISeq, fCons, fNil, fLst, oTru, gAdd_i, gSub_i, gLt_i, gLe_i, gGt_i, gGe_i, gEq_i, gNe_i, gAnd_i, gOr_i, gXor_i, gLen_l, gLen_r, gLen_t, gLen_c, gIsi_e, tyD, kb_int_int, kb_int_bool, kb_int_list, kb_int_tuple, kb_bool_int, kb_bool_bool, kb_bool_list, kb_list_list, kb_list_int, kb_list_bool, kb_list_tuple, kb_tuple_tuple, kb_tuple_list, kb_tuple_int, kb_str_str, kb_str_int, kb_str_list, kb_non_list, kb_non_int, gList_l, gList_r, gList_t, gList_c, gzip_l, genum_l, genumU_l, genumU_c, genumU_t, gInt_i, gInt_b, gAbs_i, List.getElem?_cons_zero, List.getElem?_cons_succ, List.set_cons_zero, List.set_cons_succ, List.map_cons, List.map_nil, List.length_cons, List.length_nil, iL_len, Nat.reduceAdd, Nat.reduceSub, List.replicate_succ, List.replicate_zero, List.cons_append, List.nil_append, Nat.zero_add, Option.bind_some, Option.map_some, if_true, if_false, Bool.false_eq_true, Bool.not_true, Bool.not_false, eq_self, reduceCtorEq, Nat.sub_self, List.append_nil, k0, hC]) <;> rfl)).trans ?_
  refine (seq_nx (by (simp -implicitDefEqProofs only [fnV, fnN, finV, finN, startE, gSeq, gLet, gSet, gSetN, gRet, gRetN, gRetO, gRet0, gDrop, gIf, gNext, gOwn, gFreeze, gFor, gUnp, gPar, gSetIx, gBreak, gCont, dVar, dPeek, dC, dNew, dBin, dBinN, dUn, dBl, dIf, dAnd, dOr, dNot, dAndV, dOrV, dOfB, dNil, dCons, dStar, items_l, dCall, dCallP, dCallPN, rScal_i, rScal_b, rScal_n, rScalL_i, rScalL_N, gErr, gTryAs, gTry, gIsE, clean, dCB, dCBN, dTru, dTup, dLst, dPair, dSl, oNone, oSome, ofO, dChain, chK, dIList, dITup, dRng, dLc, wipeE, R.bind_ok, R.bind_er, R.bind_no, fName, fTup, fSeq, items, gzipU_l, gzipU_c, gzipU_t, dISeq, fCons, fNil, fLst, oTru, gAdd_i, gSub_i, gLt_i, gLe_i, gGt_i, gGe_i, gEq_i, gNe_i, gAnd_i, gOr_i, gXor_i, gLen_l, gLen_r, gLen_t, gLen_c, gIsi_e, tyD, kb_int_int, kb_int_bool, kb_int_list, kb_int_tuple, kb_bool_int, kb_bool_bool, kb_bool_list, kb_list_list, kb_list_int, kb_list_bool, kb_list_tuple, kb_tuple_tuple, kb_tuple_list, kb_tuple_int, kb_str_str, kb_str_int, kb_str_list, kb_non_list, kb_non_int, gList_l, gList_r, gList_t, gList_c, gzip_l, genum_l, genumU_l, genumU_c, genumU_t, gInt_i, gInt_b, gAbs_i, List.getElem?_cons_zero, List.getElem?_cons_succ, List.set_cons_zero, List.set_cons_succ, List.map_cons, List.map_nil, List.length_cons, List.length_nil, iL_len, Nat.reduceAdd, Nat.reduceSub, List.replicate_succ, List.replicate_zero, List.cons_append, List.nil_append, Nat.zero_add, Option.bind_some, Option.map_some, if_true, if_false, Bool.false_eq_true, Bool.not_true, Bool.not_false, eq_self, reduceCtorEq, Nat.sub_self, List.append_nil, gMod_i (j := 2) (by decide), hc]) <;> rfl)).trans ?_
  refine (seq_nx (by (simp -implicitDefEqProofs only [fnV, fnN, finV, finN, startE, gSeq, gLet, gSet, gSetN, gRet, gRetN, gRetO, gRet0, gDrop, gIf, gNext, gOwn, gFreeze, gFor, gUnp, gPar, gSetIx, gBreak, gCont, dVar, dPeek, dC, dNew, dBin, dBinN, dUn, dBl, dIf, dAnd, dOr, dNot, dAndV, dOrV, dOfB, dNil, dCons, dStar, items_l, dCall, dCallP, dCallPN, rScal_i, rScal_b, rScal_n, rScalL_i, rScalL_N, gErr, gTryAs, gTry, gIsE, clean, dCB, dCBN, dTru, dTup, dLst, dPair, dSl, oNone, oSome, ofO, dChain, chK, dIList, dITup, dRng, dLc, wipeE, R.bind_ok, R.bind_er, R.bind_no, fName, fTup, fSeq, items, gzipU_l, gzipU_c, gzipU_t, dISeq, fCons, fNil, fLst, oTru, gAdd_i, gSub_i, gLt_i, gLe_i, gGt_i, gGe_i, gEq_i, gNe_i, gAnd_i, gOr_i, gXor_i, gLen_l, gLen_r, gLen_t, gLen_c, gIsi_e, tyD, kb_int_int, kb_int_bool, kb_int_list, kb_int_tuple, kb_bool_int, kb_bool_bool, kb_bool_list, kb_list_list, kb_list_int, kb_list_bool, kb_list_tuple, kb_tuple_tuple, kb_tuple_list, kb_tuple_int, kb_str_str, kb_str_int, kb_str_list, kb_non_list, kb_non_int, gList_l, gList_r, gList_t, gList_c, gzip_l, genum_l, genumU_l, genumU_c, genumU_t, gInt_i, gInt_b, gAbs_i, List.getElem?_cons_zero, List.getElem?_cons_succ, List.set_cons_zero, List.set_cons_succ, List.map_cons, List.map_nil, List.length_cons, List.length_nil, iL_len, Nat.reduceAdd, Nat.reduceSub, List.replicate_succ, List.replicate_zero, List.cons_append, List.nil_append, Nat.zero_add, Option.bind_some, Option.map_some, if_true, if_false, Bool.false_eq_true, Bool.not_true, Bool.not_false, eq_self, reduceCtorEq, Nat.sub_self, List.append_nil, gFDiv_s (j := 2) (by decide), gMod_i (j := 32) (by decide), ha, gFDiv_s (j := 64) (by decide), gMod_i (j := 4) (by decide), sz2, is]) <;> rfl)).trans ?_
  refine (seq_nx (by (simp -implicitDefEqProofs only [fnV, fnN, finV, finN, startE, gSeq, gLet, gSet, gSetN, gRet, gRetN, gRetO, gRet0, gDrop, gIf, gNext, gOwn, gFreeze, gFor, gUnp, gPar, gSetIx, gBreak, gCont, dVar, dPeek, dC, dNew, dBin, dBinN, dUn, dBl, dIf, dAnd, dOr, dNot, dAndV, dOrV, dOfB, dNil, dCons, dStar, items_l, dCall, dCallP, dCallPN, rScal_i, rScal_b, rScal_n, rScalL_i, rScalL_N, gErr, gTryAs, gTry, gIsE, clean, dCB, dCBN, dTru, dTup, dLst, dPair, dSl, oNone, oSome, ofO, dChain, chK, dIList, dITup, dRng, dLc, wipeE, R.bind_ok, R.bind_er, R.bind_no, fName, fTup, fSeq, items, gzipU_l, gzipU_c, gzipU_t, dISeq, fCons, fNil, fLst, oTru, gAdd_i, gSub_i, gLt_i, gLe_i, gGt_i, gGe_i, gEq_i, gNe_i, gAnd_i, gOr_i, gXor_i, gLen_l, gLen_r, gLen_t, gLen_c, gIsi_e, tyD, kb_int_int, kb_int_bool, kb_int_list, kb_int_tuple, kb_bool_int, kb_bool_bool, kb_bool_list, kb_list_list, kb_list_int, kb_list_bool, kb_list_tuple, kb_tuple_tuple, kb_tuple_list, kb_tuple_int, kb_str_str, kb_str_int, kb_str_list, kb_non_list, kb_non_int, gList_l, gList_r, gList_t, gList_c, gzip_l, genum_l, genumU_l, genumU_c, genumU_t, gInt_i, gInt_b, gAbs_i, List.getElem?_cons_zero, List.getElem?_cons_succ, List.set_cons_zero, List.set_cons_succ, List.map_cons, List.map_nil, List.length_cons, List.length_nil, iL_len, Nat.reduceAdd, Nat.reduceSub, List.replicate_succ, List.replicate_zero, List.cons_append, List.nil_append, Nat.zero_add, Option.bind_some, Option.map_some, if_true, if_false, Bool.false_eq_true, Bool.not_true, Bool.not_false, eq_self, reduceCtorEq, Nat.sub_self, List.append_nil, gFDiv_s (j := 256) (by decide), gMod_i (j := 4) (by decide), hj, sz4, wx]) <;> rfl)).trans ?_
  refine (seq_nx (by (simp -implicitDefEqProofs only [fnV, fnN, finV, finN, startE, gSeq, gLet, gSet, gSetN, gRet, gRetN, gRetO, gRet0, gDrop, gIf, gNext, gOwn, gFreeze, gFor, gUnp, gPar, gSetIx, gBreak, gCont, dVar, dPeek, dC, dNew, dBin, dBinN, dUn, dBl, dIf, dAnd, dOr, dNot, dAndV, dOrV, dOfB, dNil, dCons, dStar, items_l, dCall, dCallP, dCallPN, rScal_i, rScal_b, rScal_n, rScalL_i, rScalL_N, gErr, gTryAs, gTry, gIsE, clean, dCB, dCBN, dTru, dTup, dLst, dPair, dSl, oNone, oSome, ofO, dChain, chK, dIList, dITup, dRng, dLc, wipeE, R.bind_ok, R.bind_er, R.bind_no, fName, fTup, fSeq, items, gzipU_l, gzipU_c, gzipU_t, dISeq, fCons, fNil, fLst, oTru, gAdd_i, gSub_i, gLt_i, gLe_i, gGt_i, gGe_i, gEq_i, gNe_i, gAnd_i, gOr_i, gXor_i, gLen_l, gLen_r, gLen_t, gLen_c, gIsi_e, tyD, kb_int_int, kb_int_bool, kb_int_list, kb_int_tuple, kb_bool_int, kb_bool_bool, kb_bool_list, kb_list_list, kb_list_int, kb_list_bool, kb_list_tuple, kb_tuple_tuple, kb_tuple_list, kb_tuple_int, kb_str_str, kb_str_int, kb_str_list, kb_non_list, kb_non_int, gList_l, gList_r, gList_t, gList_c, gzip_l, genum_l, genumU_l, genumU_c, genumU_t, gInt_i, gInt_b, gAbs_i, List.getElem?_cons_zero, List.getElem?_cons_succ, List.set_cons_zero, List.set_cons_succ, List.map_cons, List.map_nil, List.length_cons, List.length_nil, iL_len, Nat.reduceAdd, Nat.reduceSub, List.replicate_succ, List.replicate_zero, List.cons_append, List.nil_append, Nat.zero_add, Option.bind_some, Option.map_some, if_true, if_false, Bool.false_eq_true, Bool.not_true, Bool.not_false, eq_self, reduceCtorEq, Nat.sub_self, List.append_nil, gFDiv_s (j := 1024) (by decide), gMod_i (j := 26) (by decide), gMod_i (j := 6) (by decide), hb', hd, m5, gFDiv_s (j := 32768) (by decide), gMod_i (j := 2) (by decide), hg, sz2, ih]) <;> rfl)).trans ?_
  refine (seq_nx (by (simp -implicitDefEqProofs only [fnV, fnN, finV, finN, startE, gSeq, gLet, gSet, gSetN, gRet, gRetN, gRetO, gRet0, gDrop, gIf, gNext, gOwn, gFreeze, gFor, gUnp, gPar, gSetIx, gBreak, gCont, dVar, dPeek, dC, dNew, dBin, dBinN, dUn, dBl, dIf, dAnd, dOr, dNot, dAndV, dOrV, dOfB, dNil, dCons, dStar, items_l, dCall, dCallP, dCallPN, rScal_i, rScal_b, rScal_n, rScalL_i, rScalL_N, gErr, gTryAs, gTry, gIsE, clean, dCB, dCBN, dTru, dTup, dLst, dPair, dSl, oNone, oSome, ofO, dChain, chK, dIList, dITup, dRng, dLc, wipeE, R.bind_ok, R.bind_er, R.bind_no, fName, fTup, fSeq, items, gzipU_l, gzipU_c, gzipU_t, dISeq, fCons, fNil, fLst, oTru, gAdd_i, gSub_i, gLt_i, gLe_i, gGt_i, gGe_i, gEq_i, gNe_i, gAnd_i, gOr_i, gXor_i, gLen_l, gLen_r, gLen_t, gLen_c, gIsi_e, tyD, kb_int_int, kb_int_bool, kb_int_list, kb_int_tuple, kb_bool_int, kb_bool_bool, kb_bool_list, kb_list_list, kb_list_int, kb_list_bool, kb_list_tuple, kb_tuple_tuple, kb_tuple_list, kb_tuple_int, kb_str_str, kb_str_int, kb_str_list, kb_non_list, kb_non_int, gList_l, gList_r, gList_t, gList_c, gzip_l, genum_l, genumU_l, genumU_c, genumU_t, gInt_i, gInt_b, gAbs_i, List.getElem?_cons_zero, List.getElem?_cons_succ, List.set_cons_zero, List.set_cons_succ, List.map_cons, List.map_nil, List.length_cons, List.length_nil, iL_len, Nat.reduceAdd, Nat.reduceSub, List.replicate_succ, List.replicate_zero, List.cons_append, List.nil_append, Nat.zero_add, Option.bind_some, Option.map_some, if_true, if_false, Bool.false_eq_true, Bool.not_true, Bool.not_false, eq_self, reduceCtorEq, Nat.sub_self, List.append_nil, dMake, su, on]) <;> rfl)).trans ?_
  refine (seq_nx (by (simp -implicitDefEqProofs only [fnV, fnN, finV, finN, startE, gSeq, gLet, gSet, gSetN, gRet, gRetN, gRetO, gRet0, gDrop, gIf, gNext, gOwn, gFreeze, gFor, gUnp, gPar, gSetIx, gBreak, gCont, dVar, dPeek, dC, dNew, dBin, dBinN, dUn, dBl, dIf, dAnd, dOr, dNot, dAndV, dOrV, dOfB, dNil, dCons, dStar, items_l, dCall, dCallP, dCallPN, rScal_i, rScal_b, rScal_n, rScalL_i, rScalL_N, gErr, gTryAs, gTry, gIsE, clean, dCB, dCBN, dTru, dTup, dLst, dPair, dSl, oNone, oSome, ofO, dChain, chK, dIList, dITup, dRng, dLc, wipeE, R.bind_ok, R.bind_er, R.bind_no, fName, fTup, fSeq, items, gzipU_l, gzipU_c, gzipU_t, dISeq, fCons, fNil, fLst, oTru, gAdd_i, gSub_i, gLt_i, gLe_i, gGt_i, gGe_i, gEq_i, gNe_i, gAnd_i, gOr_i, gXor_i, gLen_l, gLen_r, gLen_t, gLen_c, gIsi_e, tyD, kb_int_int, kb_int_bool, kb_int_list, kb_int_tuple, kb_bool_int, kb_bool_bool, kb_bool_list, kb_list_list, kb_list_int, kb_list_bool, kb_list_tuple, kb_tuple_tuple, kb_tuple_list, kb_tuple_int, kb_str_str, kb_str_int, kb_str_list, kb_non_list, kb_non_int, gList_l, gList_r, gList_t, gList_c, gzip_l, genum_l, genumU_l, genumU_c, genumU_t, gInt_i, gInt_b, gAbs_i, List.getElem?_cons_zero, List.getElem?_cons_succ, List.set_cons_zero, List.set_cons_succ, List.map_cons, List.map_nil, List.length_cons, List.length_nil, iL_len, Nat.reduceAdd, Nat.reduceSub, List.replicate_succ, List.replicate_zero, List.cons_append, List.nil_append, Nat.zero_add, Option.bind_some, Option.map_some, if_true, if_false, Bool.false_eq_true, Bool.not_true, Bool.not_false, eq_self, reduceCtorEq, Nat.sub_self, List.append_nil, dMake, ti]) <;> rfl)).trans ?_
  refine (seq_nx (by (simp -implicitDefEqProofs only [fnV, fnN, finV, finN, startE, gSeq, gLet, gSet, gSetN, gRet, gRetN, gRetO, gRet0, gDrop, gIf, gNext, gOwn, gFreeze, gFor, gUnp, gPar, gSetIx, gBreak, gCont, dVar, dPeek, dC, dNew, dBin, dBinN, dUn, dBl, dIf, dAnd, dOr, dNot, dAndV, dOrV, dOfB, dNil, dCons, dStar, items_l, dCall, dCallP, dCallPN, rScal_i, rScal_b, rScal_n, rScalL_i, rScalL_N, gErr, gTryAs, gTry, gIsE, clean, dCB, dCBN, dTru, dTup, dLst, dPair, dSl, oNone, oSome, ofO, dChain, chK, dIList, dITup, dRng, dLc, wipeE, R.bind_ok, R.bind_er, R.bind_no, fName, fTup, fSeq, items, gzipU_l, gzipU_c, gzipU_t, dISeq, fCons, fNil, fLst, oTru, gAdd_i, gSub_i, gLt_i, gLe_i, gGt_i, gGe_i, gEq_i, gNe_i, gAnd_i, gOr_i, gXor_i, gLen_l, gLen_r, gLen_t, gLen_c, gIsi_e, tyD, kb_int_int, kb_int_bool, kb_int_list, kb_int_tuple, kb_bool_int, kb_bool_bool, kb_bool_list, kb_list_list, kb_list_int, kb_list_bool, kb_list_tuple, kb_tuple_tuple, kb_tuple_list, kb_tuple_int, kb_str_str, kb_str_int, kb_str_list, kb_non_list, kb_non_int, gList_l, gList_r, gList_t, gList_c, gzip_l, genum_l, genumU_l, genumU_c, genumU_t, gInt_i, gInt_b, gAbs_i, List.getElem?_cons_zero, List.getElem?_cons_succ, List.set_cons_zero, List.set_cons_succ, List.map_cons, List.map_nil, List.length_cons, List.length_nil, iL_len, Nat.reduceAdd, Nat.reduceSub, List.replicate_succ, List.replicate_zero, List.cons_append, List.nil_append, Nat.zero_add, Option.bind_some, Option.map_some, if_true, if_false, Bool.false_eq_true, Bool.not_true, Bool.not_false, eq_self, reduceCtorEq, Nat.sub_self, List.append_nil, fo]) <;> rfl)).trans ?_
  refine (seq_nx (by (simp -implicitDefEqProofs only [fnV, fnN, finV, finN, startE, gSeq, gLet, gSet, gSetN, gRet, gRetN, gRetO, gRet0, gDrop, gIf, gNext, gOwn, gFreeze, gFor, gUnp, gPar, gSetIx, gBreak, gCont, dVar, dPeek, dC, dNew, dBin, dBinN, dUn, dBl, dIf, dAnd, dOr, dNot, dAndV, dOrV, dOfB, dNil, dCons, dStar, items_l, dCall, dCallP, dCallPN, rScal_i, rScal_b, rScal_n, rScalL_i, rScalL_N, gErr, gTryAs, gTry, gIsE, clean, dCB, dCBN, dTru, dTup, dLst, dPair, dSl, oNone, oSome, ofO, dChain, chK, dIList, dITup, dRng, dLc, wipeE, R.bind_ok, R.bind_er, R.bind_no, fName, fTup, fSeq, items, gzipU_l, gzipU_c, gzipU_t, dISeq, fCons, fNil, fLst, oTru, gAdd_i, gSub_i, gLt_i, gLe_i, gGt_i, gGe_i, gEq_i, gNe_i, gAnd_i, gOr_i, gXor_i, gLen_l, gLen_r, gLen_t, gLen_c, gIsi_e, tyD, kb_int_int, kb_int_bool, kb_int_list, kb_int_tuple, kb_bool_int, kb_bool_bool, kb_bool_list, kb_list_list, kb_list_int, kb_list_bool, kb_list_tuple, kb_tuple_tuple, kb_tuple_list, kb_tuple_int, kb_str_str, kb_str_int, kb_str_list, kb_non_list, kb_non_int, gList_l, gList_r, gList_t, gList_c, gzip_l, genum_l, genumU_l, genumU_c, genumU_t, gInt_i, gInt_b, gAbs_i, List.getElem?_cons_zero, List.getElem?_cons_succ, List.set_cons_zero, List.set_cons_succ, List.map_cons, List.map_nil, List.length_cons, List.length_nil, iL_len, Nat.reduceAdd, Nat.reduceSub, List.replicate_succ, List.replicate_zero, List.cons_append, List.nil_append, Nat.zero_add, Option.bind_some, Option.map_some, if_true, if_false, Bool.false_eq_true, Bool.not_true, Bool.not_false, eq_self, reduceCtorEq, Nat.sub_self, List.append_nil, dFld, k_code5, k_code4, t3, l2, tk, fo]) <;> rfl)).trans ?_
  refine (seq_nx (for_step (ds := L.map D.int) ?_ e)).trans ?_
  · rw [hL]
    simp -implicitDefEqProofs only [fnV, fnN, finV, finN, startE, gSeq, gLet, gSet, gSetN, gRet, gRetN, gRetO, gRet0, gDrop, gIf, gNext, gOwn, gFreeze, gFor, gUnp, gPar, gSetIx, gBreak, gCont, dVar, dPeek, dC, dNew, dBin, dBinN, dUn, dBl, dIf, dAnd, dOr, dNot, dAndV, dOrV, dOfB, dNil, dCons, dStar, items_l, dCall, dCallP, dCallPN, rScal_i, rScal_b, rScal_n, rScalL_i, rScalL_N, gErr, gTryAs, gTry, gIsE, clean, dCB, dCBN, dTru, dTup, dLst, dPair, dSl, oNone, oSome, ofO, dChain, chK, dIList, dITup, dRng, dLc, wipeE, R.bind_ok, R.bind_er, R.bind_no, fName, fTup, fSeq, items, gzipU_l, gzipU_c, gzipU_t, dISeq, fCons, fNil, fLst, oTru, gAdd_i, gSub_i, gLt_i, gLe_i, gGt_i, gGe_i, gEq_i, gNe_i, gAnd_i, gOr_i, gXor_i, gLen_l, gLen_r, gLen_t, gLen_c, gIsi_e, tyD, kb_int_int, kb_int_bool, kb_int_list, kb_int_tuple, kb_bool_int, kb_bool_bool, kb_bool_list, kb_list_list, kb_list_int, kb_list_bool, kb_list_tuple, kb_tuple_tuple, kb_tuple_list, kb_tuple_int, kb_str_str, kb_str_int, kb_str_list, kb_non_list, kb_non_int, gList_l, gList_r, gList_t, gList_c, gzip_l, genum_l, genumU_l, genumU_c, genumU_t, gInt_i, gInt_b, gAbs_i, List.getElem?_cons_zero, List.getElem?_cons_succ, List.set_cons_zero, List.set_cons_succ, List.map_cons, List.map_nil, List.length_cons, List.length_nil, iL_len, Nat.reduceAdd, Nat.reduceSub, List.replicate_succ, List.replicate_zero, List.cons_append, List.nil_append, Nat.zero_add, Option.bind_some, Option.map_some, if_true, if_false, Bool.false_eq_true, Bool.not_true, Bool.not_false, eq_self, reduceCtorEq, Nat.sub_self, List.append_nil, gMod_i (j := 99) (by decide), gNeg_i, sz4]
  exact ta2 j'
end VL
namespace VL
open PySem PySem.Spec PyProof.Rows L2
theorem cx_false {P : Program} {w : World} {H : Hp} {s : Shared} {e : Value} {s' : Shared} {o : List Env} (h : L2.CX P w o H s (fun _ _ _ => False) e s') : False := by
  obtain ⟨_, _, _, _, _, _, _, _, _, _, _, _, z⟩ := h
  exact z
theorem repL_ints {K : PySem.W.Frag} {c : Cs} {B : Hp} : ∀ ns : List Int, RepL K c B (ns.map D.int) (ns.map V.int)
  | [] => .nil
  | n :: r => .cons (.int n) (repL_ints r)
theorem all_mk {l : PySem.W.OpenLaw} {w : World} {K : PySem.W.Frag} {h : Heap} {mg : Str → Option Value} {fa f1 f2 f3 f4 f5 f6 f7 f8 f9 f10 f11 f12 f13 f14 f15 f16 f17 f18 : Addr} (X : K.In h) (G : h.Ns mainGlobals mg) (hfa : mg "law" = some (.ref fa)) {od1 an1 : Option Addr} {sl1 : Array (Option Value)} {oc1 kV1 dc1 pm1 cd1 ct1 : Value} {od2 an2 : Option Addr} {sl2 : Array (Option Value)} {oc2 kV2 dc2 pm2 cd2 ct2 : Value} {od3 an3 : Option Addr} {sl3 : Array (Option Value)} {oc3 kV3 dc3 pm3 cd3 ct3 : Value} {od4 an4 : Option Addr} {sl4 : Array (Option Value)} {oc4 kV4 dc4 pm4 cd4 ct4 : Value} {od5 an5 : Option Addr} {sl5 : Array (Option Value)} {oc5 kV5 dc5 pm5 cd5 ct5 : Value} {od6 an6 : Option Addr} {sl6 : Array (Option Value)} {oc6 kV6 dc6 pm6 cd6 ct6 : Value} {od7 an7 : Option Addr} {sl7 : Array (Option Value)} {oc7 kV7 dc7 pm7 cd7 ct7 : Value} {od8 an8 : Option Addr} {sl8 : Array (Option Value)} {oc8 kV8 dc8 pm8 cd8 ct8 : Value} {od9 an9 : Option Addr} {sl9 : Array (Option Value)} {oc9 kV9 dc9 pm9 cd9 ct9 : Value} {od10 an10 : Option Addr} {sl10 : Array (Option Value)} {oc10 kV10 dc10 pm10 cd10 ct10 : Value} {od11 an11 : Option Addr} {sl11 : Array (Option Value)} {oc11 kV11 dc11 pm11 cd11 ct11 : Value} {od12 an12 : Option Addr} {sl12 : Array (Option Value)} {oc12 kV12 dc12 pm12 cd12 ct12 : Value} {od13 an13 : Option Addr} {sl13 : Array (Option Value)} {oc13 kV13 dc13 pm13 cd13 ct13 : Value} {od14 an14 : Option Addr} {sl14 : Array (Option Value)} {oc14 kV14 dc14 pm14 cd14 ct14 : Value} {od15 an15 : Option Addr} {sl15 : Array (Option Value)} {oc15 kV15 dc15 pm15 cd15 ct15 : Value} {od16 an16 : Option Addr} {sl16 : Array (Option Value)} {oc16 kV16 dc16 pm16 cd16 ct16 : Value} {od17 an17 : Option Addr} {sl17 : Array (Option Value)} {oc17 kV17 dc17 pm17 cd17 ct17 : Value} {od18 an18 : Option Addr} {sl18 : Array (Option Value)} {oc18 kV18 dc18 pm18 cd18 ct18 : Value} {t_FIRST_coefficients : Tok} {t_FIRST_lms : Tok} {t_MOST : Tok} {p_PUBLISHED : Addr} {o_PUBLISHED : Obj} {i_PUBLISHED : Array Value} {n_PUBLISHED : Nat} {p_WIDTHS : Addr} {o_WIDTHS : Obj} {i_WIDTHS : Array Value} {n_WIDTHS : Nat} {p_WORDS : Addr} {o_WORDS : Obj} {i_WORDS : Array Value} {n_WORDS : Nat} {C_SealError : Addr} {C_OutOfRange : Addr} {C_Malformed : Addr} {C_Suite : Addr} {C_OneTime : Addr} {C_TreeKind : Addr}
    (a1 : PySem.W.nsIn K mainGlobals "is_integer" = some (some (.ref f1)))
    (l1 : K.lookup f1 = some ⟨oc1, od1, .func (PySem.W.fnOf "is_integer" "is_integer" (defArgs s_is_integer) (defBody s_is_integer) (defScope s_is_integer) .none kV1 dc1 pm1 an1 cd1 ct1), sl1⟩)
    (c1 : PySem.W.codeIn K cd1 "is_integer" = true)
    (k1 : PySem.W.keepIn K (.ref f1) = true)
    (a2 : PySem.W.findIn K (.ref C_Suite) "__init__" = some (some (.ref f2)))
    (i2 : PySem.W.isFn K (.ref f2) = true)
    (l2 : K.lookup f2 = some ⟨oc2, od2, .func (PySem.W.fnOf "__init__" "Suite.__init__" (defArgs s_Suite_init) (defBody s_Suite_init) (defScope s_Suite_init) .none kV2 dc2 pm2 an2 cd2 ct2), sl2⟩)
    (c2 : PySem.W.codeIn K cd2 "Suite.__init__" = true)
    (k2 : PySem.W.keepIn K (.ref f2) = true)
    (a3 : PySem.W.nsIn K mainGlobals "checks_of" = some (some (.ref f3)))
    (l3 : K.lookup f3 = some ⟨oc3, od3, .func (PySem.W.fnOf "checks_of" "checks_of" (defArgs s_checks_of) (defBody s_checks_of) (defScope s_checks_of) .none kV3 dc3 pm3 an3 cd3 ct3), sl3⟩)
    (c3 : PySem.W.codeIn K cd3 "checks_of" = true)
    (k3 : PySem.W.keepIn K (.ref f3) = true)
    (a4 : PySem.W.findIn K (.ref C_OneTime) "_code" = some (some (.ref f4)))
    (i4 : PySem.W.isFn K (.ref f4) = true)
    (l4 : K.lookup f4 = some ⟨oc4, od4, .func (PySem.W.fnOf "_code" "OneTime._code" (defArgs s_OneTime__code) (defBody s_OneTime__code) (defScope s_OneTime__code) .none kV4 dc4 pm4 an4 cd4 ct4), sl4⟩)
    (c4 : PySem.W.codeIn K cd4 "OneTime._code" = true)
    (k4 : PySem.W.keepIn K (.ref f4) = true)
    (a5 : PySem.W.findIn K (.ref C_TreeKind) "_code" = some (some (.ref f5)))
    (i5 : PySem.W.isFn K (.ref f5) = true)
    (l5 : K.lookup f5 = some ⟨oc5, od5, .func (PySem.W.fnOf "_code" "TreeKind._code" (defArgs s_TreeKind__code) (defBody s_TreeKind__code) (defScope s_TreeKind__code) .none kV5 dc5 pm5 an5 cd5 ct5), sl5⟩)
    (c5 : PySem.W.codeIn K cd5 "TreeKind._code" = true)
    (k5 : PySem.W.keepIn K (.ref f5) = true)
    (a6 : PySem.W.nsIn K mainGlobals "_law_cell" = some (some (.ref f6)))
    (l6 : K.lookup f6 = some ⟨oc6, od6, .func (PySem.W.fnOf "_law_cell" "_law_cell" (defArgs s__law_cell) (defBody s__law_cell) (defScope s__law_cell) .none kV6 dc6 pm6 an6 cd6 ct6), sl6⟩)
    (c6 : PySem.W.codeIn K cd6 "_law_cell" = true)
    (k6 : PySem.W.keepIn K (.ref f6) = true)
    (a7 : PySem.W.nsIn K mainGlobals "_law_integer" = some (some (.ref f7)))
    (l7 : K.lookup f7 = some ⟨oc7, od7, .func (PySem.W.fnOf "_law_integer" "_law_integer" (defArgs s__law_integer) (defBody s__law_integer) (defScope s__law_integer) .none kV7 dc7 pm7 an7 cd7 ct7), sl7⟩)
    (c7 : PySem.W.codeIn K cd7 "_law_integer" = true)
    (k7 : PySem.W.keepIn K (.ref f7) = true)
    (a8 : PySem.W.nsIn K mainGlobals "_law_code" = some (some (.ref f8)))
    (l8 : K.lookup f8 = some ⟨oc8, od8, .func (PySem.W.fnOf "_law_code" "_law_code" (defArgs s__law_code) (defBody s__law_code) (defScope s__law_code) .none kV8 dc8 pm8 an8 cd8 ct8), sl8⟩)
    (c8 : PySem.W.codeIn K cd8 "_law_code" = true)
    (k8 : PySem.W.keepIn K (.ref f8) = true)
    (a9 : PySem.W.nsIn K mainGlobals "_law_once" = some (some (.ref f9)))
    (l9 : K.lookup f9 = some ⟨oc9, od9, .func (PySem.W.fnOf "_law_once" "_law_once" (defArgs s__law_once) (defBody s__law_once) (defScope s__law_once) .none kV9 dc9 pm9 an9 cd9 ct9), sl9⟩)
    (c9 : PySem.W.codeIn K cd9 "_law_once" = true)
    (k9 : PySem.W.keepIn K (.ref f9) = true)
    (a10 : PySem.W.nsIn K mainGlobals "_law_fields" = some (some (.ref f10)))
    (l10 : K.lookup f10 = some ⟨oc10, od10, .func (PySem.W.fnOf "_law_fields" "_law_fields" (defArgs s__law_fields) (defBody s__law_fields) (defScope s__law_fields) .none kV10 dc10 pm10 an10 cd10 ct10), sl10⟩)
    (c10 : PySem.W.codeIn K cd10 "_law_fields" = true)
    (k10 : PySem.W.keepIn K (.ref f10) = true)
    (a11 : PySem.W.findIn K (.ref C_OneTime) "__init__" = some (some (.ref f11)))
    (i11 : PySem.W.isFn K (.ref f11) = true)
    (l11 : K.lookup f11 = some ⟨oc11, od11, .func (PySem.W.fnOf "__init__" "OneTime.__init__" (defArgs s_OneTime_init) (defBody s_OneTime_init) (defScope s_OneTime_init) .none kV11 dc11 pm11 an11 cd11 ct11), sl11⟩)
    (c11 : PySem.W.codeIn K cd11 "OneTime.__init__" = true)
    (k11 : PySem.W.keepIn K (.ref f11) = true)
    (a12 : PySem.W.nsIn K mainGlobals "one_time_of" = some (some (.ref f12)))
    (l12 : K.lookup f12 = some ⟨oc12, od12, .func (PySem.W.fnOf "one_time_of" "one_time_of" (defArgs s_one_time_of) (defBody s_one_time_of) (defScope s_one_time_of) .none kV12 dc12 pm12 an12 cd12 ct12), sl12⟩)
    (c12 : PySem.W.codeIn K cd12 "one_time_of" = true)
    (k12 : PySem.W.keepIn K (.ref f12) = true)
    (a13 : PySem.W.findIn K (.ref C_TreeKind) "__init__" = some (some (.ref f13)))
    (i13 : PySem.W.isFn K (.ref f13) = true)
    (l13 : K.lookup f13 = some ⟨oc13, od13, .func (PySem.W.fnOf "__init__" "TreeKind.__init__" (defArgs s_TreeKind_init) (defBody s_TreeKind_init) (defScope s_TreeKind_init) .none kV13 dc13 pm13 an13 cd13 ct13), sl13⟩)
    (c13 : PySem.W.codeIn K cd13 "TreeKind.__init__" = true)
    (k13 : PySem.W.keepIn K (.ref f13) = true)
    (a14 : PySem.W.nsIn K mainGlobals "tree_kind_of" = some (some (.ref f14)))
    (l14 : K.lookup f14 = some ⟨oc14, od14, .func (PySem.W.fnOf "tree_kind_of" "tree_kind_of" (defArgs s_tree_kind_of) (defBody s_tree_kind_of) (defScope s_tree_kind_of) .none kV14 dc14 pm14 an14 cd14 ct14), sl14⟩)
    (c14 : PySem.W.codeIn K cd14 "tree_kind_of" = true)
    (k14 : PySem.W.keepIn K (.ref f14) = true)
    (a15 : PySem.W.nsIn K mainGlobals "_law_read" = some (some (.ref f15)))
    (l15 : K.lookup f15 = some ⟨oc15, od15, .func (PySem.W.fnOf "_law_read" "_law_read" (defArgs s__law_read) (defBody s__law_read) (defScope s__law_read) .none kV15 dc15 pm15 an15 cd15 ct15), sl15⟩)
    (c15 : PySem.W.codeIn K cd15 "_law_read" = true)
    (k15 : PySem.W.keepIn K (.ref f15) = true)
    (a16 : PySem.W.nsIn K mainGlobals "_law_refused" = some (some (.ref f16)))
    (l16 : K.lookup f16 = some ⟨oc16, od16, .func (PySem.W.fnOf "_law_refused" "_law_refused" (defArgs s__law_refused) (defBody s__law_refused) (defScope s__law_refused) .none kV16 dc16 pm16 an16 cd16 ct16), sl16⟩)
    (c16 : PySem.W.codeIn K cd16 "_law_refused" = true)
    (k16 : PySem.W.keepIn K (.ref f16) = true)
    (a17 : PySem.W.nsIn K mainGlobals "_law_no_once" = some (some (.ref f17)))
    (l17 : K.lookup f17 = some ⟨oc17, od17, .func (PySem.W.fnOf "_law_no_once" "_law_no_once" (defArgs s__law_no_once) (defBody s__law_no_once) (defScope s__law_no_once) .none kV17 dc17 pm17 an17 cd17 ct17), sl17⟩)
    (c17 : PySem.W.codeIn K cd17 "_law_no_once" = true)
    (k17 : PySem.W.keepIn K (.ref f17) = true)
    (a18 : PySem.W.nsIn K mainGlobals "law" = some (some (.ref f18)))
    (l18 : K.lookup f18 = some ⟨oc18, od18, .func (PySem.W.fnOf "law" "law" (defArgs s_law) (defBody s_law) (defScope s_law) .none kV18 dc18 pm18 an18 cd18 ct18), sl18⟩)
    (c18 : PySem.W.codeIn K cd18 "law" = true)
    (k18 : PySem.W.keepIn K (.ref f18) = true)
    (z_abs : PySem.W.nsIn K mainGlobals "abs" = some none)
    (z_bool : PySem.W.nsIn K mainGlobals "bool" = some none)
    (z_divmod : PySem.W.nsIn K mainGlobals "divmod" = some none)
    (z_int : PySem.W.nsIn K mainGlobals "int" = some none)
    (z_isinstance : PySem.W.nsIn K mainGlobals "isinstance" = some none)
    (z_len : PySem.W.nsIn K mainGlobals "len" = some none)
    (z_range : PySem.W.nsIn K mainGlobals "range" = some none)
    (q_FIRST_coefficients : PySem.W.nsIn K mainGlobals "FIRST_coefficients" = some (some (.int 3758096384 t_FIRST_coefficients)))
    (q_FIRST_lms : PySem.W.nsIn K mainGlobals "FIRST_lms" = some (some (.int 3892314112 t_FIRST_lms)))
    (q_MOST : PySem.W.nsIn K mainGlobals "MOST" = some (some (.int 32 t_MOST)))
    (q_PUBLISHED : PySem.W.nsIn K mainGlobals "PUBLISHED" = some (some (.ref p_PUBLISHED)))
    (r_PUBLISHED : K.lookup p_PUBLISHED = some o_PUBLISHED)
    (s_PUBLISHED : o_PUBLISHED.cls = .type "tuple" ∧ o_PUBLISHED.data = .seq i_PUBLISHED n_PUBLISHED ∧ i_PUBLISHED.size ≤ sizeLine ∧ ∀ B, ∃ vs, Vals vs i_PUBLISHED.toList ∧ RepL K (mkC [C_SealError, C_OutOfRange, C_Malformed, C_Suite, C_OneTime, C_TreeKind]) B kl_PUBLISHED vs)
    (sd_PUBLISHED : o_PUBLISHED.dict = none)
    (q_WIDTHS : PySem.W.nsIn K mainGlobals "WIDTHS" = some (some (.ref p_WIDTHS)))
    (r_WIDTHS : K.lookup p_WIDTHS = some o_WIDTHS)
    (s_WIDTHS : o_WIDTHS.cls = .type "tuple" ∧ o_WIDTHS.data = .seq i_WIDTHS n_WIDTHS ∧ i_WIDTHS.size ≤ sizeLine ∧ ∀ B, ∃ vs, Vals vs i_WIDTHS.toList ∧ RepL K (mkC [C_SealError, C_OutOfRange, C_Malformed, C_Suite, C_OneTime, C_TreeKind]) B kl_WIDTHS vs)
    (sd_WIDTHS : o_WIDTHS.dict = none)
    (q_WORDS : PySem.W.nsIn K mainGlobals "WORDS" = some (some (.ref p_WORDS)))
    (r_WORDS : K.lookup p_WORDS = some o_WORDS)
    (s_WORDS : o_WORDS.cls = .type "tuple" ∧ o_WORDS.data = .seq i_WORDS n_WORDS ∧ i_WORDS.size ≤ sizeLine ∧ ∀ B, ∃ vs, Vals vs i_WORDS.toList ∧ RepL K (mkC [C_SealError, C_OutOfRange, C_Malformed, C_Suite, C_OneTime, C_TreeKind]) B kl_WORDS vs)
    (qc_SealError : PySem.W.nsIn K mainGlobals "SealError" = some (some (.ref C_SealError)))
    (qc_OutOfRange : PySem.W.nsIn K mainGlobals "OutOfRange" = some (some (.ref C_OutOfRange)))
    (qc_Malformed : PySem.W.nsIn K mainGlobals "Malformed" = some (some (.ref C_Malformed)))
    (qc_Suite : PySem.W.nsIn K mainGlobals "Suite" = some (some (.ref C_Suite)))
    (qc_OneTime : PySem.W.nsIn K mainGlobals "OneTime" = some (some (.ref C_OneTime)))
    (qc_TreeKind : PySem.W.nsIn K mainGlobals "TreeKind" = some (some (.ref C_TreeKind)))
    (pg_Suite : PySem.W.plainGet K C_Suite Str.empty = true)
    (hd_Suite : PySem.W.hasDictIn K C_Suite = true)
    (po_Suite : PySem.W.plainOver K C_Suite = true)
    (sa_Suite : PySem.W.findIn K (.ref C_Suite) "__setattr__" = some (some (.builtin "object.__setattr__")))
    (mk_Suite : PySem.W.makesIn K C_Suite = true)
    (kc_Suite : PySem.W.keepIn K (.ref C_Suite) = true)
    (nf_Suite_core : PySem.W.findIn K (.ref C_Suite) "core" = some none)
    (nf_Suite_size : PySem.W.findIn K (.ref C_Suite) "size" = some none)
    (nf_Suite_name : PySem.W.findIn K (.ref C_Suite) "name" = some none)
    (pg_OneTime : PySem.W.plainGet K C_OneTime Str.empty = true)
    (hd_OneTime : PySem.W.hasDictIn K C_OneTime = true)
    (po_OneTime : PySem.W.plainOver K C_OneTime = true)
    (sa_OneTime : PySem.W.findIn K (.ref C_OneTime) "__setattr__" = some (some (.builtin "object.__setattr__")))
    (mk_OneTime : PySem.W.makesIn K C_OneTime = true)
    (kc_OneTime : PySem.W.keepIn K (.ref C_OneTime) = true)
    (nf_OneTime_suite : PySem.W.findIn K (.ref C_OneTime) "suite" = some none)
    (nf_OneTime_width : PySem.W.findIn K (.ref C_OneTime) "width" = some none)
    (nf_OneTime_top : PySem.W.findIn K (.ref C_OneTime) "top" = some none)
    (nf_OneTime_u : PySem.W.findIn K (.ref C_OneTime) "u" = some none)
    (nf_OneTime_v : PySem.W.findIn K (.ref C_OneTime) "v" = some none)
    (nf_OneTime_ls : PySem.W.findIn K (.ref C_OneTime) "ls" = some none)
    (nf_OneTime_p : PySem.W.findIn K (.ref C_OneTime) "p" = some none)
    (nf_OneTime_code : PySem.W.findIn K (.ref C_OneTime) "code" = some none)
    (pg_TreeKind : PySem.W.plainGet K C_TreeKind Str.empty = true)
    (hd_TreeKind : PySem.W.hasDictIn K C_TreeKind = true)
    (po_TreeKind : PySem.W.plainOver K C_TreeKind = true)
    (sa_TreeKind : PySem.W.findIn K (.ref C_TreeKind) "__setattr__" = some (some (.builtin "object.__setattr__")))
    (mk_TreeKind : PySem.W.makesIn K C_TreeKind = true)
    (kc_TreeKind : PySem.W.keepIn K (.ref C_TreeKind) = true)
    (nf_TreeKind_one_time : PySem.W.findIn K (.ref C_TreeKind) "one_time" = some none)
    (nf_TreeKind_suite : PySem.W.findIn K (.ref C_TreeKind) "suite" = some none)
    (nf_TreeKind_height : PySem.W.findIn K (.ref C_TreeKind) "height" = some none)
    (nf_TreeKind_places : PySem.W.findIn K (.ref C_TreeKind) "places" = some none)
    (nf_TreeKind_code : PySem.W.findIn K (.ref C_TreeKind) "code" = some none)
    (x1_OutOfRange : PySem.W.excIn K C_OutOfRange [.type "ValueError", .type "Exception", .type "BaseException", .type "object"] "ValueError.__new__" = true)
    (x2_OutOfRange : PySem.W.keepIn K (.ref C_OutOfRange) = true)
    (x3_OutOfRange : PySem.W.subIn K (.ref C_OutOfRange) (.type "BaseException") = some true)
    (x4_OutOfRange : PySem.W.typeIn K (.ref C_OutOfRange) = some (.type "type"))
    (ec_OutOfRange : ExcC K C_OutOfRange)
    (e_OutOfRange_SealError : PySem.W.exmOne K (.ref C_OutOfRange) (.ref C_SealError) = some true)
    (k_OutOfRange_SealError : PySem.W.kitOne K (.ref C_OutOfRange) (.ref C_SealError) = some true)
    (e_OutOfRange_OutOfRange : PySem.W.exmOne K (.ref C_OutOfRange) (.ref C_OutOfRange) = some true)
    (k_OutOfRange_OutOfRange : PySem.W.kitOne K (.ref C_OutOfRange) (.ref C_OutOfRange) = some true)
    (e_OutOfRange_Malformed : PySem.W.exmOne K (.ref C_OutOfRange) (.ref C_Malformed) = some false)
    (k_OutOfRange_Malformed : PySem.W.kitOne K (.ref C_OutOfRange) (.ref C_Malformed) = some false)
    (x1_Malformed : PySem.W.excIn K C_Malformed [.type "ValueError", .type "Exception", .type "BaseException", .type "object"] "ValueError.__new__" = true)
    (x2_Malformed : PySem.W.keepIn K (.ref C_Malformed) = true)
    (x3_Malformed : PySem.W.subIn K (.ref C_Malformed) (.type "BaseException") = some true)
    (x4_Malformed : PySem.W.typeIn K (.ref C_Malformed) = some (.type "type"))
    (ec_Malformed : ExcC K C_Malformed)
    (e_Malformed_SealError : PySem.W.exmOne K (.ref C_Malformed) (.ref C_SealError) = some true)
    (k_Malformed_SealError : PySem.W.kitOne K (.ref C_Malformed) (.ref C_SealError) = some true)
    (e_Malformed_OutOfRange : PySem.W.exmOne K (.ref C_Malformed) (.ref C_OutOfRange) = some false)
    (k_Malformed_OutOfRange : PySem.W.kitOne K (.ref C_Malformed) (.ref C_OutOfRange) = some false)
    (e_Malformed_Malformed : PySem.W.exmOne K (.ref C_Malformed) (.ref C_Malformed) = some true)
    (k_Malformed_Malformed : PySem.W.kitOne K (.ref C_Malformed) (.ref C_Malformed) = some true)
    : ∃ fd : FuncData, (∀ (s : Shared) (v : Value), BindsTo s fd ⟨[v], []⟩ [("script", v)]) ∧ ∀ base : Heap, K.In base → base.Ns mainGlobals mg → FnOk l.prog w K mg base (L2.CX l.prog w) 7 fa fd ["script"] (spA K 1 f_law) := by
  have e := hfa.symm.trans (PySem.W.mg_of X G a18)
  cases e
  have m_abs := PySem.W.mg_none_of X G z_abs
  have m_bool := PySem.W.mg_none_of X G z_bool
  have m_divmod := PySem.W.mg_none_of X G z_divmod
  have m_int := PySem.W.mg_none_of X G z_int
  have m_isinstance := PySem.W.mg_none_of X G z_isinstance
  have m_len := PySem.W.mg_none_of X G z_len
  have m_range := PySem.W.mg_none_of X G z_range
  have c_FIRST_coefficients : ∃ t, mg "FIRST_coefficients" = some (.int 3758096384 t) := ⟨_, PySem.W.mg_of X G q_FIRST_coefficients⟩
  have c_FIRST_lms : ∃ t, mg "FIRST_lms" = some (.int 3892314112 t) := ⟨_, PySem.W.mg_of X G q_FIRST_lms⟩
  have c_MOST : ∃ t, mg "MOST" = some (.int 32 t) := ⟨_, PySem.W.mg_of X G q_MOST⟩
  have c_PUBLISHED : ∃ a, mg "PUBLISHED" = some (.ref a) ∧ ∀ B, Rep K (mkC [C_SealError, C_OutOfRange, C_Malformed, C_Suite, C_OneTime, C_TreeKind]) B k_PUBLISHED (.ref a) := ⟨_, PySem.W.mg_of X G q_PUBLISHED, fun B => let ⟨vs, h1, h2⟩ := s_PUBLISHED.2.2.2 B; .ct (.inr ⟨_, _, _, r_PUBLISHED, s_PUBLISHED.1, s_PUBLISHED.2.1, s_PUBLISHED.2.2.1, h1⟩) h2⟩
  have c_WIDTHS : ∃ a, mg "WIDTHS" = some (.ref a) ∧ ∀ B, Rep K (mkC [C_SealError, C_OutOfRange, C_Malformed, C_Suite, C_OneTime, C_TreeKind]) B k_WIDTHS (.ref a) := ⟨_, PySem.W.mg_of X G q_WIDTHS, fun B => let ⟨vs, h1, h2⟩ := s_WIDTHS.2.2.2 B; .ct (.inr ⟨_, _, _, r_WIDTHS, s_WIDTHS.1, s_WIDTHS.2.1, s_WIDTHS.2.2.1, h1⟩) h2⟩
  have c_WORDS : ∃ a, mg "WORDS" = some (.ref a) ∧ ∀ B, Rep K (mkC [C_SealError, C_OutOfRange, C_Malformed, C_Suite, C_OneTime, C_TreeKind]) B k_WORDS (.ref a) := ⟨_, PySem.W.mg_of X G q_WORDS, fun B => let ⟨vs, h1, h2⟩ := s_WORDS.2.2.2 B; .ct (.inr ⟨_, _, _, r_WORDS, s_WORDS.1, s_WORDS.2.1, s_WORDS.2.2.1, h1⟩) h2⟩
  have d_PUBLISHED : ∃ a, mg "PUBLISHED" = some (.ref a) ∧ (∃ ob, K.lookup a = some ob ∧ ob.cls = .type "tuple" ∧ ob.dict = none) ∧ ∀ B, Rep K (mkC [C_SealError, C_OutOfRange, C_Malformed, C_Suite, C_OneTime, C_TreeKind]) B (.ct kl_PUBLISHED) (.ref a) := ⟨_, PySem.W.mg_of X G q_PUBLISHED, ⟨_, r_PUBLISHED, s_PUBLISHED.1, sd_PUBLISHED⟩, fun B => let ⟨vs, h1, h2⟩ := s_PUBLISHED.2.2.2 B; .ct (.inr ⟨_, _, _, r_PUBLISHED, s_PUBLISHED.1, s_PUBLISHED.2.1, s_PUBLISHED.2.2.1, h1⟩) h2⟩
  have d_WIDTHS : ∃ a, mg "WIDTHS" = some (.ref a) ∧ (∃ ob, K.lookup a = some ob ∧ ob.cls = .type "tuple" ∧ ob.dict = none) ∧ ∀ B, Rep K (mkC [C_SealError, C_OutOfRange, C_Malformed, C_Suite, C_OneTime, C_TreeKind]) B (.ct kl_WIDTHS) (.ref a) := ⟨_, PySem.W.mg_of X G q_WIDTHS, ⟨_, r_WIDTHS, s_WIDTHS.1, sd_WIDTHS⟩, fun B => let ⟨vs, h1, h2⟩ := s_WIDTHS.2.2.2 B; .ct (.inr ⟨_, _, _, r_WIDTHS, s_WIDTHS.1, s_WIDTHS.2.1, s_WIDTHS.2.2.1, h1⟩) h2⟩
  have y_SealError : mg "SealError" = some (.ref (Cs.cl (mkC [C_SealError, C_OutOfRange, C_Malformed, C_Suite, C_OneTime, C_TreeKind]) 0)) := PySem.W.mg_of X G qc_SealError
  have y_OutOfRange : mg "OutOfRange" = some (.ref (Cs.cl (mkC [C_SealError, C_OutOfRange, C_Malformed, C_Suite, C_OneTime, C_TreeKind]) 1)) := PySem.W.mg_of X G qc_OutOfRange
  have y_Malformed : mg "Malformed" = some (.ref (Cs.cl (mkC [C_SealError, C_OutOfRange, C_Malformed, C_Suite, C_OneTime, C_TreeKind]) 2)) := PySem.W.mg_of X G qc_Malformed
  have y_Suite : mg "Suite" = some (.ref (Cs.cl (mkC [C_SealError, C_OutOfRange, C_Malformed, C_Suite, C_OneTime, C_TreeKind]) 3)) := PySem.W.mg_of X G qc_Suite
  have y_OneTime : mg "OneTime" = some (.ref (Cs.cl (mkC [C_SealError, C_OutOfRange, C_Malformed, C_Suite, C_OneTime, C_TreeKind]) 4)) := PySem.W.mg_of X G qc_OneTime
  have y_TreeKind : mg "TreeKind" = some (.ref (Cs.cl (mkC [C_SealError, C_OutOfRange, C_Malformed, C_Suite, C_OneTime, C_TreeKind]) 5)) := PySem.W.mg_of X G qc_TreeKind
  have x_OutOfRange : ExcAt K (mkC [C_SealError, C_OutOfRange, C_Malformed, C_Suite, C_OneTime, C_TreeKind]) mg "OutOfRange" 1 := ⟨y_OutOfRange, x1_OutOfRange, x2_OutOfRange, x3_OutOfRange, x4_OutOfRange⟩
  have x_Malformed : ExcAt K (mkC [C_SealError, C_OutOfRange, C_Malformed, C_Suite, C_OneTime, C_TreeKind]) mg "Malformed" 2 := ⟨y_Malformed, x1_Malformed, x2_Malformed, x3_Malformed, x4_Malformed⟩
  have ISe : ∀ n y b, isub n y = some b → PySem.W.exmOne K (.ref (Cs.cl (mkC [C_SealError, C_OutOfRange, C_Malformed, C_Suite, C_OneTime, C_TreeKind]) n)) (.ref (Cs.cl (mkC [C_SealError, C_OutOfRange, C_Malformed, C_Suite, C_OneTime, C_TreeKind]) y)) = some b := fun n y b h => by
    unfold isub at h
    split at h <;> first
      | (cases h; exact e_OutOfRange_SealError)
      | (cases h; exact e_OutOfRange_OutOfRange)
      | (cases h; exact e_OutOfRange_Malformed)
      | (cases h; exact e_Malformed_SealError)
      | (cases h; exact e_Malformed_OutOfRange)
      | (cases h; exact e_Malformed_Malformed)
      | cases h
  have ISk : ∀ n y b, isub n y = some b → PySem.W.kitOne K (.ref (Cs.cl (mkC [C_SealError, C_OutOfRange, C_Malformed, C_Suite, C_OneTime, C_TreeKind]) n)) (.ref (Cs.cl (mkC [C_SealError, C_OutOfRange, C_Malformed, C_Suite, C_OneTime, C_TreeKind]) y)) = some b := fun n y b h => by
    unfold isub at h
    split at h <;> first
      | (cases h; exact k_OutOfRange_SealError)
      | (cases h; exact k_OutOfRange_OutOfRange)
      | (cases h; exact k_OutOfRange_Malformed)
      | (cases h; exact k_Malformed_SealError)
      | (cases h; exact k_Malformed_OutOfRange)
      | (cases h; exact k_Malformed_Malformed)
      | cases h
  have ISx : ∀ n y b, isub n y = some b → ExcC K (Cs.cl (mkC [C_SealError, C_OutOfRange, C_Malformed, C_Suite, C_OneTime, C_TreeKind]) n) := fun n y b h => by
    unfold isub at h
    split at h <;> first
      | exact ec_OutOfRange
      | exact ec_Malformed
      | cases h
  have IS : IsTab K (mkC [C_SealError, C_OutOfRange, C_Malformed, C_Suite, C_OneTime, C_TreeKind]) isub := ⟨ISe, ISk, ISx, fun _ _ h => h⟩
  have CL_Suite : Cls K (Cs.cl (mkC [C_SealError, C_OutOfRange, C_Malformed, C_Suite, C_OneTime, C_TreeKind]) 3) := ⟨pg_Suite, hd_Suite, po_Suite, sa_Suite⟩
  have CL_OneTime : Cls K (Cs.cl (mkC [C_SealError, C_OutOfRange, C_Malformed, C_Suite, C_OneTime, C_TreeKind]) 4) := ⟨pg_OneTime, hd_OneTime, po_OneTime, sa_OneTime⟩
  have CL_TreeKind : Cls K (Cs.cl (mkC [C_SealError, C_OutOfRange, C_Malformed, C_Suite, C_OneTime, C_TreeKind]) 5) := ⟨pg_TreeKind, hd_TreeKind, po_TreeKind, sa_TreeKind⟩
  have FT : FldTab K (mkC [C_SealError, C_OutOfRange, C_Malformed, C_Suite, C_OneTime, C_TreeKind]) okF := fld_of (List.forall_mem_cons.mpr ⟨⟨CL_Suite, nf_Suite_core⟩, (List.forall_mem_cons.mpr ⟨⟨CL_Suite, nf_Suite_size⟩, (List.forall_mem_cons.mpr ⟨⟨CL_Suite, nf_Suite_name⟩, (List.forall_mem_cons.mpr ⟨⟨CL_OneTime, nf_OneTime_suite⟩, (List.forall_mem_cons.mpr ⟨⟨CL_OneTime, nf_OneTime_width⟩, (List.forall_mem_cons.mpr ⟨⟨CL_OneTime, nf_OneTime_top⟩, (List.forall_mem_cons.mpr ⟨⟨CL_OneTime, nf_OneTime_u⟩, (List.forall_mem_cons.mpr ⟨⟨CL_OneTime, nf_OneTime_v⟩, (List.forall_mem_cons.mpr ⟨⟨CL_OneTime, nf_OneTime_ls⟩, (List.forall_mem_cons.mpr ⟨⟨CL_OneTime, nf_OneTime_p⟩, (List.forall_mem_cons.mpr ⟨⟨CL_OneTime, nf_OneTime_code⟩, (List.forall_mem_cons.mpr ⟨⟨CL_TreeKind, nf_TreeKind_one_time⟩, (List.forall_mem_cons.mpr ⟨⟨CL_TreeKind, nf_TreeKind_suite⟩, (List.forall_mem_cons.mpr ⟨⟨CL_TreeKind, nf_TreeKind_height⟩, (List.forall_mem_cons.mpr ⟨⟨CL_TreeKind, nf_TreeKind_places⟩, (List.forall_mem_cons.mpr ⟨⟨CL_TreeKind, nf_TreeKind_code⟩, (fun _ h => absurd h (List.not_mem_nil))⟩)⟩)⟩)⟩)⟩)⟩)⟩)⟩)⟩)⟩)⟩)⟩)⟩)⟩)⟩)⟩)
  have F1 := fun_mk (st := s_is_integer) l1 c1 k1
  have F2 := fun_mk (st := s_Suite_init) l2 c2 k2
  have F3 := fun_mk (st := s_checks_of) l3 c3 k3
  have F4 := fun_mk (st := s_OneTime__code) l4 c4 k4
  have F5 := fun_mk (st := s_TreeKind__code) l5 c5 k5
  have F6 := fun_mk (st := s__law_cell) l6 c6 k6
  have F7 := fun_mk (st := s__law_integer) l7 c7 k7
  have F8 := fun_mk (st := s__law_code) l8 c8 k8
  have F9 := fun_mk (st := s__law_once) l9 c9 k9
  have F10 := fun_mk (st := s__law_fields) l10 c10 k10
  have F11 := fun_mk (st := s_OneTime_init) l11 c11 k11
  have F12 := fun_mk (st := s_one_time_of) l12 c12 k12
  have F13 := fun_mk (st := s_TreeKind_init) l13 c13 k13
  have F14 := fun_mk (st := s_tree_kind_of) l14 c14 k14
  have F15 := fun_mk (st := s__law_read) l15 c15 k15
  have F16 := fun_mk (st := s__law_refused) l16 c16 k16
  have F17 := fun_mk (st := s__law_no_once) l17 c17 k17
  have F18 := fun_mk (st := s_law) l18 c18 k18
  refine ⟨PySem.W.fnOf "law" "law" (defArgs s_law) (defBody s_law) (defScope s_law) .none kV18 dc18 pm18 an18 cd18 ct18, fun s v => .of_eq rfl, fun base _ _ => ?_⟩
  have F_is_integer : DefAt l.prog w K mg base "is_integer" 1 1 (spV K (mkC [C_SealError, C_OutOfRange, C_Malformed, C_Suite, C_OneTime, C_TreeKind]) 1 f_is_integer) := ⟨_, _, ["value"], ok_is_integer (P := l.prog) (w := w) (base := base) F1 m_bool m_int m_isinstance, PySem.W.mg_of X G a1, F1.kp, F1.binds (ps := ["value"]) (fun _ _ _ _ _ _ us hl => match us, hl with | [_], _ => rfl), rfl⟩
  have K_Suite : MakeAt l.prog w K (mkC [C_SealError, C_OutOfRange, C_Malformed, C_Suite, C_OneTime, C_TreeKind]) mg base "Suite" 3 2 3 (spI K (mkC [C_SealError, C_OutOfRange, C_Malformed, C_Suite, C_OneTime, C_TreeKind]) 3 3 f_Suite_init) := ⟨_, _, ["self", "core", "size"], ok_Suite_init (P := l.prog) (w := w) (base := base) F2 c_MOST c_WORDS x_OutOfRange FT F_is_integer, ⟨mk_Suite, a2, i2, kc_Suite⟩, y_Suite, F2.binds (ps := ["self", "core", "size"]) (fun _ _ _ _ _ _ us hl => match us, hl with | [_, _, _], _ => rfl), rfl⟩
  have F_checks_of : DefAt l.prog w K mg base "checks_of" 1 2 (spV K (mkC [C_SealError, C_OutOfRange, C_Malformed, C_Suite, C_OneTime, C_TreeKind]) 2 f_checks_of) := ⟨_, _, ["most", "width"], ok_checks_of (P := l.prog) (w := w) (base := base) F3 , PySem.W.mg_of X G a3, F3.kp, F3.binds (ps := ["most", "width"]) (fun _ _ _ _ _ _ us hl => match us, hl with | [_, _], _ => rfl), rfl⟩
  have M_OneTime__code : MethAt l.prog w K (mkC [C_SealError, C_OutOfRange, C_Malformed, C_Suite, C_OneTime, C_TreeKind]) mg base 4 "_code" 1 1 (spV K (mkC [C_SealError, C_OutOfRange, C_Malformed, C_Suite, C_OneTime, C_TreeKind]) 1 f_OneTime__code) := ⟨⟨_, _, ["self"], ok_OneTime__code (P := l.prog) (w := w) (base := base) F4 c_FIRST_coefficients c_WIDTHS d_WIDTHS FT, ⟨a4, i4, k4⟩, F4.binds (ps := ["self"]) (fun _ _ _ _ _ _ us hl => match us, hl with | [_], _ => rfl), rfl⟩, CL_OneTime⟩
  have M_TreeKind__code : MethAt l.prog w K (mkC [C_SealError, C_OutOfRange, C_Malformed, C_Suite, C_OneTime, C_TreeKind]) mg base 5 "_code" 1 1 (spV K (mkC [C_SealError, C_OutOfRange, C_Malformed, C_Suite, C_OneTime, C_TreeKind]) 1 f_TreeKind__code) := ⟨⟨_, _, ["self"], ok_TreeKind__code (P := l.prog) (w := w) (base := base) F5 c_FIRST_lms c_PUBLISHED d_PUBLISHED FT, ⟨a5, i5, k5⟩, F5.binds (ps := ["self"]) (fun _ _ _ _ _ _ us hl => match us, hl with | [_], _ => rfl), rfl⟩, CL_TreeKind⟩
  have F__law_cell : DefAt l.prog w K mg base "_law_cell" 1 2 (spV K (mkC [C_SealError, C_OutOfRange, C_Malformed, C_Suite, C_OneTime, C_TreeKind]) 2 f__law_cell) := ⟨_, _, ["script", "k"], ok__law_cell (P := l.prog) (w := w) (base := base) F6 m_int m_len, PySem.W.mg_of X G a6, F6.kp, F6.binds (ps := ["script", "k"]) (fun _ _ _ _ _ _ us hl => match us, hl with | [_, _], _ => rfl), rfl⟩
  have F__law_integer : DefAt l.prog w K mg base "_law_integer" 1 1 (spV K (mkC [C_SealError, C_OutOfRange, C_Malformed, C_Suite, C_OneTime, C_TreeKind]) 1 f__law_integer) := ⟨_, _, ["actual"], ok__law_integer (P := l.prog) (w := w) (base := base) F7 m_bool m_int m_isinstance, PySem.W.mg_of X G a7, F7.kp, F7.binds (ps := ["actual"]) (fun _ _ _ _ _ _ us hl => match us, hl with | [_], _ => rfl), rfl⟩
  have F__law_code : DefAt l.prog w K mg base "_law_code" 1 3 (spV K (mkC [C_SealError, C_OutOfRange, C_Malformed, C_Suite, C_OneTime, C_TreeKind]) 3 f__law_code) := ⟨_, _, ["core", "size", "height"], ok__law_code (P := l.prog) (w := w) (base := base) F8 , PySem.W.mg_of X G a8, F8.kp, F8.binds (ps := ["core", "size", "height"]) (fun _ _ _ _ _ _ us hl => match us, hl with | [_, _, _], _ => rfl), rfl⟩
  have F__law_once : DefAt l.prog w K mg base "_law_once" 1 3 (spV K (mkC [C_SealError, C_OutOfRange, C_Malformed, C_Suite, C_OneTime, C_TreeKind]) 3 f__law_once) := ⟨_, _, ["core", "size", "width"], ok__law_once (P := l.prog) (w := w) (base := base) F9 , PySem.W.mg_of X G a9, F9.kp, F9.binds (ps := ["core", "size", "width"]) (fun _ _ _ _ _ _ us hl => match us, hl with | [_, _, _], _ => rfl), rfl⟩
  have F__law_fields : DefAt l.prog w K mg base "_law_fields" 2 5 (spV K (mkC [C_SealError, C_OutOfRange, C_Malformed, C_Suite, C_OneTime, C_TreeKind]) 5 f__law_fields) := ⟨_, _, ["kind", "core", "size", "width", "height"], ok__law_fields (P := l.prog) (w := w) (base := base) F10 m_len FT F__law_code F__law_integer, PySem.W.mg_of X G a10, F10.kp, F10.binds (ps := ["kind", "core", "size", "width", "height"]) (fun _ _ _ _ _ _ us hl => match us, hl with | [_, _, _, _, _], _ => rfl), rfl⟩
  have K_OneTime : MakeAt l.prog w K (mkC [C_SealError, C_OutOfRange, C_Malformed, C_Suite, C_OneTime, C_TreeKind]) mg base "OneTime" 4 2 3 (spI K (mkC [C_SealError, C_OutOfRange, C_Malformed, C_Suite, C_OneTime, C_TreeKind]) 4 3 f_OneTime_init) := ⟨_, _, ["self", "suite", "width"], ok_OneTime_init (P := l.prog) (w := w) (base := base) F11 c_WIDTHS x_OutOfRange FT F_checks_of M_OneTime__code, ⟨mk_OneTime, a11, i11, kc_OneTime⟩, y_OneTime, F11.binds (ps := ["self", "suite", "width"]) (fun _ _ _ _ _ _ us hl => match us, hl with | [_, _, _], _ => rfl), rfl⟩
  have F_one_time_of : DefAt l.prog w K mg base "one_time_of" 4 1 (spV K (mkC [C_SealError, C_OutOfRange, C_Malformed, C_Suite, C_OneTime, C_TreeKind]) 1 f_one_time_of) := ⟨_, _, ["code"], ok_one_time_of (P := l.prog) (w := w) (base := base) F12 m_divmod c_FIRST_coefficients c_WIDTHS x_Malformed FT K_OneTime K_Suite, PySem.W.mg_of X G a12, F12.kp, F12.binds (ps := ["code"]) (fun _ _ _ _ _ _ us hl => match us, hl with | [_], _ => rfl), rfl⟩
  have K_TreeKind : MakeAt l.prog w K (mkC [C_SealError, C_OutOfRange, C_Malformed, C_Suite, C_OneTime, C_TreeKind]) mg base "TreeKind" 5 2 3 (spI K (mkC [C_SealError, C_OutOfRange, C_Malformed, C_Suite, C_OneTime, C_TreeKind]) 5 3 f_TreeKind_init) := ⟨_, _, ["self", "one_time", "height"], ok_TreeKind_init (P := l.prog) (w := w) (base := base) F13 x_OutOfRange FT M_TreeKind__code, ⟨mk_TreeKind, a13, i13, kc_TreeKind⟩, y_TreeKind, F13.binds (ps := ["self", "one_time", "height"]) (fun _ _ _ _ _ _ us hl => match us, hl with | [_, _, _], _ => rfl), rfl⟩
  have F_tree_kind_of : DefAt l.prog w K mg base "tree_kind_of" 5 2 (spV K (mkC [C_SealError, C_OutOfRange, C_Malformed, C_Suite, C_OneTime, C_TreeKind]) 2 f_tree_kind_of) := ⟨_, _, ["code", "once_code"], ok_tree_kind_of (P := l.prog) (w := w) (base := base) F14 c_FIRST_lms c_PUBLISHED x_Malformed FT F_one_time_of K_TreeKind, PySem.W.mg_of X G a14, F14.kp, F14.binds (ps := ["code", "once_code"]) (fun _ _ _ _ _ _ us hl => match us, hl with | [_, _], _ => rfl), rfl⟩
  have F__law_read : DefAt l.prog w K mg base "_law_read" 6 4 (spV K (mkC [C_SealError, C_OutOfRange, C_Malformed, C_Suite, C_OneTime, C_TreeKind]) 4 f__law_read) := ⟨_, _, ["code", "core", "size", "width"], ok__law_read (P := l.prog) (w := w) (base := base) F15 m_isinstance m_len m_range y_Malformed y_OutOfRange y_SealError IS FT F__law_code F__law_fields F__law_once F_tree_kind_of, PySem.W.mg_of X G a15, F15.kp, F15.binds (ps := ["code", "core", "size", "width"]) (fun _ _ _ _ _ _ us hl => match us, hl with | [_, _, _, _], _ => rfl), rfl⟩
  have F__law_refused : DefAt l.prog w K mg base "_law_refused" 4 2 (spV K (mkC [C_SealError, C_OutOfRange, C_Malformed, C_Suite, C_OneTime, C_TreeKind]) 2 f__law_refused) := ⟨_, _, ["kind", "height"], ok__law_refused (P := l.prog) (w := w) (base := base) F16 m_isinstance y_Malformed y_OutOfRange y_SealError IS K_TreeKind, PySem.W.mg_of X G a16, F16.kp, F16.binds (ps := ["kind", "height"]) (fun _ _ _ _ _ _ us hl => match us, hl with | [_, _], _ => rfl), rfl⟩
  have F__law_no_once : DefAt l.prog w K mg base "_law_no_once" 6 2 (spV K (mkC [C_SealError, C_OutOfRange, C_Malformed, C_Suite, C_OneTime, C_TreeKind]) 2 f__law_no_once) := ⟨_, _, ["code", "once"], ok__law_no_once (P := l.prog) (w := w) (base := base) F17 m_isinstance y_Malformed y_OutOfRange y_SealError IS F_tree_kind_of, PySem.W.mg_of X G a17, F17.kp, F17.binds (ps := ["code", "once"]) (fun _ _ _ _ _ _ us hl => match us, hl with | [_, _], _ => rfl), rfl⟩
  exact FnOk.imp (ok_law (P := l.prog) (w := w) (base := base) F18 m_abs m_int FT F__law_cell F__law_fields F__law_no_once F__law_read F__law_refused F_tree_kind_of K_OneTime K_Suite K_TreeKind) (fun vs H Q E h => h (mkC [C_SealError, C_OutOfRange, C_Malformed, C_Suite, C_OneTime, C_TreeKind]))
end VL
open PySem PySem.W PyProof.Rows
set_option maxRecDepth 100000 in
set_option maxHeartbeats 0 in
theorem PySem.Challenge.cw_sealgrove_k20_kinds_of_trees_holds : PySem.Challenge.rw_sealgrove_k20_kinds_of_trees.Holds := by
  w_on; o_law; k_head; (case hw => w_witness2)
  k_fill
  refine L2.walk_ofB (l := PySem.Challenge.rw_sealgrove_k20_kinds_of_trees) (n := 63) (k := 7) (x := "script") (CX := fun w => L2.CX PySem.Challenge.rw_sealgrove_k20_kinds_of_trees.prog w) (sp := fun w => VL.spA _ 1 VL.f_law) rfl (by decide) rfl ⟨rfl, by decide, by decide⟩ (fun w h Y => PySem.W.kIn_of Y) ?F (fun w H a ns hl hb _ hS => fun c => ⟨H, [.ro (ns.map .int)], fun _ _ h => h, .cons (.ro hS (VL.repL_ints ns)) .nil, rfl, by
    rw [VL.law_true ns hl hb]
    intro v B' H' _ hv
    cases hv
    rfl⟩) (fun _ _ _ _ _ h => VL.cx_false h)
  case F =>
    intro w mg fa h KX G hmg
    refine' VL.all_mk KX G hmg ?a1 ?l1 ?c1 ?k1 ?a2 ?i2 ?l2 ?c2 ?k2 ?a3 ?l3 ?c3 ?k3 ?a4 ?i4 ?l4 ?c4 ?k4 ?a5 ?i5 ?l5 ?c5 ?k5 ?a6 ?l6 ?c6 ?k6 ?a7 ?l7 ?c7 ?k7 ?a8 ?l8 ?c8 ?k8 ?a9 ?l9 ?c9 ?k9 ?a10 ?l10 ?c10 ?k10 ?a11 ?i11 ?l11 ?c11 ?k11 ?a12 ?l12 ?c12 ?k12 ?a13 ?i13 ?l13 ?c13 ?k13 ?a14 ?l14 ?c14 ?k14 ?a15 ?l15 ?c15 ?k15 ?a16 ?l16 ?c16 ?k16 ?a17 ?l17 ?c17 ?k17 ?a18 ?l18 ?c18 ?k18 ?z_abs ?z_bool ?z_divmod ?z_int ?z_isinstance ?z_len ?z_range ?q_FIRST_coefficients ?q_FIRST_lms ?q_MOST ?q_PUBLISHED ?r_PUBLISHED ?s_PUBLISHED ?sd_PUBLISHED ?q_WIDTHS ?r_WIDTHS ?s_WIDTHS ?sd_WIDTHS ?q_WORDS ?r_WORDS ?s_WORDS ?qc_SealError ?qc_OutOfRange ?qc_Malformed ?qc_Suite ?qc_OneTime ?qc_TreeKind ?pg_Suite ?hd_Suite ?po_Suite ?sa_Suite ?mk_Suite ?kc_Suite ?nf_Suite_core ?nf_Suite_size ?nf_Suite_name ?pg_OneTime ?hd_OneTime ?po_OneTime ?sa_OneTime ?mk_OneTime ?kc_OneTime ?nf_OneTime_suite ?nf_OneTime_width ?nf_OneTime_top ?nf_OneTime_u ?nf_OneTime_v ?nf_OneTime_ls ?nf_OneTime_p ?nf_OneTime_code ?pg_TreeKind ?hd_TreeKind ?po_TreeKind ?sa_TreeKind ?mk_TreeKind ?kc_TreeKind ?nf_TreeKind_one_time ?nf_TreeKind_suite ?nf_TreeKind_height ?nf_TreeKind_places ?nf_TreeKind_code ?x1_OutOfRange ?x2_OutOfRange ?x3_OutOfRange ?x4_OutOfRange ?ec_OutOfRange ?e_OutOfRange_SealError ?k_OutOfRange_SealError ?e_OutOfRange_OutOfRange ?k_OutOfRange_OutOfRange ?e_OutOfRange_Malformed ?k_OutOfRange_Malformed ?x1_Malformed ?x2_Malformed ?x3_Malformed ?x4_Malformed ?ec_Malformed ?e_Malformed_SealError ?k_Malformed_SealError ?e_Malformed_OutOfRange ?k_Malformed_OutOfRange ?e_Malformed_Malformed ?k_Malformed_Malformed
    (case qc_SealError => k_is)
    (case qc_OutOfRange => k_is)
    (case qc_Malformed => k_is)
    (case qc_Suite => k_is)
    (case qc_OneTime => k_is)
    (case qc_TreeKind => k_is)
    (case a1 => k_is)
    (case l1 => k_is)
    (case c1 => k_is)
    (case k1 => k_is)
    (case a2 => k_is)
    (case i2 => k_is)
    (case l2 => k_is)
    (case c2 => k_is)
    (case k2 => k_is)
    (case a3 => k_is)
    (case l3 => k_is)
    (case c3 => k_is)
    (case k3 => k_is)
    (case a4 => k_is)
    (case i4 => k_is)
    (case l4 => k_is)
    (case c4 => k_is)
    (case k4 => k_is)
    (case a5 => k_is)
    (case i5 => k_is)
    (case l5 => k_is)
    (case c5 => k_is)
    (case k5 => k_is)
    (case a6 => k_is)
    (case l6 => k_is)
    (case c6 => k_is)
    (case k6 => k_is)
    (case a7 => k_is)
    (case l7 => k_is)
    (case c7 => k_is)
    (case k7 => k_is)
    (case a8 => k_is)
    (case l8 => k_is)
    (case c8 => k_is)
    (case k8 => k_is)
    (case a9 => k_is)
    (case l9 => k_is)
    (case c9 => k_is)
    (case k9 => k_is)
    (case a10 => k_is)
    (case l10 => k_is)
    (case c10 => k_is)
    (case k10 => k_is)
    (case a11 => k_is)
    (case i11 => k_is)
    (case l11 => k_is)
    (case c11 => k_is)
    (case k11 => k_is)
    (case a12 => k_is)
    (case l12 => k_is)
    (case c12 => k_is)
    (case k12 => k_is)
    (case a13 => k_is)
    (case i13 => k_is)
    (case l13 => k_is)
    (case c13 => k_is)
    (case k13 => k_is)
    (case a14 => k_is)
    (case l14 => k_is)
    (case c14 => k_is)
    (case k14 => k_is)
    (case a15 => k_is)
    (case l15 => k_is)
    (case c15 => k_is)
    (case k15 => k_is)
    (case a16 => k_is)
    (case l16 => k_is)
    (case c16 => k_is)
    (case k16 => k_is)
    (case a17 => k_is)
    (case l17 => k_is)
    (case c17 => k_is)
    (case k17 => k_is)
    (case a18 => k_is)
    (case l18 => k_is)
    (case c18 => k_is)
    (case k18 => k_is)
    (case z_abs => k_is)
    (case z_bool => k_is)
    (case z_divmod => k_is)
    (case z_int => k_is)
    (case z_isinstance => k_is)
    (case z_len => k_is)
    (case z_range => k_is)
    (case q_FIRST_coefficients => k_is)
    (case q_FIRST_lms => k_is)
    (case q_MOST => k_is)
    (case q_PUBLISHED => k_is)
    (case r_PUBLISHED => k_is)
    (case s_PUBLISHED => exact ⟨rfl, rfl, by decide, fun _ => VL.chk_ok (by decide +kernel)⟩)
    (case sd_PUBLISHED => exact rfl)
    (case q_WIDTHS => k_is)
    (case r_WIDTHS => k_is)
    (case s_WIDTHS => exact ⟨rfl, rfl, by decide, fun _ => VL.chk_ok (by decide +kernel)⟩)
    (case sd_WIDTHS => exact rfl)
    (case q_WORDS => k_is)
    (case r_WORDS => k_is)
    (case s_WORDS => exact ⟨rfl, rfl, by decide, fun _ => VL.chk_ok (by decide +kernel)⟩)
    (case pg_Suite => k_is)
    (case hd_Suite => k_is)
    (case po_Suite => k_is)
    (case sa_Suite => k_is)
    (case mk_Suite => k_is)
    (case kc_Suite => k_is)
    (case nf_Suite_core => k_is)
    (case nf_Suite_size => k_is)
    (case nf_Suite_name => k_is)
    (case pg_OneTime => k_is)
    (case hd_OneTime => k_is)
    (case po_OneTime => k_is)
    (case sa_OneTime => k_is)
    (case mk_OneTime => k_is)
    (case kc_OneTime => k_is)
    (case nf_OneTime_suite => k_is)
    (case nf_OneTime_width => k_is)
    (case nf_OneTime_top => k_is)
    (case nf_OneTime_u => k_is)
    (case nf_OneTime_v => k_is)
    (case nf_OneTime_ls => k_is)
    (case nf_OneTime_p => k_is)
    (case nf_OneTime_code => k_is)
    (case pg_TreeKind => k_is)
    (case hd_TreeKind => k_is)
    (case po_TreeKind => k_is)
    (case sa_TreeKind => k_is)
    (case mk_TreeKind => k_is)
    (case kc_TreeKind => k_is)
    (case nf_TreeKind_one_time => k_is)
    (case nf_TreeKind_suite => k_is)
    (case nf_TreeKind_height => k_is)
    (case nf_TreeKind_places => k_is)
    (case nf_TreeKind_code => k_is)
    (case x1_OutOfRange => k_exc)
    (case x2_OutOfRange => k_is)
    (case x3_OutOfRange => k_is)
    (case x4_OutOfRange => k_is)
    (case ec_OutOfRange => constructor <;> k_is)
    (case e_OutOfRange_SealError => refine VL.exm_of ?_ ?_ ?_ ?_ <;> k_is)
    (case k_OutOfRange_SealError => kit_is)
    (case e_OutOfRange_OutOfRange => refine VL.exm_of ?_ ?_ ?_ ?_ <;> k_is)
    (case k_OutOfRange_OutOfRange => kit_is)
    (case e_OutOfRange_Malformed => refine VL.exm_of ?_ ?_ ?_ ?_ <;> k_is)
    (case k_OutOfRange_Malformed => kit_is)
    (case x1_Malformed => k_exc)
    (case x2_Malformed => k_is)
    (case x3_Malformed => k_is)
    (case x4_Malformed => k_is)
    (case ec_Malformed => constructor <;> k_is)
    (case e_Malformed_SealError => refine VL.exm_of ?_ ?_ ?_ ?_ <;> k_is)
    (case k_Malformed_SealError => kit_is)
    (case e_Malformed_OutOfRange => refine VL.exm_of ?_ ?_ ?_ ?_ <;> k_is)
    (case k_Malformed_OutOfRange => kit_is)
    (case e_Malformed_Malformed => refine VL.exm_of ?_ ?_ ?_ ?_ <;> k_is)
    (case k_Malformed_Malformed => kit_is)
namespace VL
end VL
