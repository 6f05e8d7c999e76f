import PyProof.Rows.All
import Wide.All
import OpenK.AllK
import Wide.FinOn
import HandS.ForMost
import HandS.ForExc
import HandS.More
import HandS.Zip
import HandS.IsInst
import HandS.Wide
import HandS.FStr
import HandS.Style
import HandS.EndBits
import PySem.Challenge.RW_sealgrove_k03_the_small_core
set_option Elab.async false
set_option linter.all false
set_option maxRecDepth 100000
set_option maxHeartbeats 4000000
namespace VL
open PySem PySem.Spec PyProof.Rows L2

/-! ### data -/
inductive D where
  | non | bl (b : Bool) | int (i : Int) | str (s : Str) | ref (a : Addr) | ty (n : String)
  | lst (xs : List D) | tup (xs : List D) | ro (xs : List D) | ct (xs : List D)
  | obj (C : Addr) (fs : List (Str × D))
  deriving Inhabited

inductive R (α : Type) where
  | ok (a : α) | er (C : Addr) | no
def R.bind {α β : Type} (x : R α) (f : α → R β) : R β := match x with
  | .ok a => f a
  | .er C => .er C
  | .no => .no
theorem R.bind_ok {α β : Type} (a : α) (f : α → R β) : (R.ok a).bind f = f a := rfl
theorem R.bind_er {α β : Type} (C : Addr) (f : α → R β) : (R.er C : R α).bind f = .er C := rfl
theorem R.bind_no {α β : Type} (f : α → R β) : (R.no : R α).bind f = .no := rfl

mutual
inductive Rep (K : PySem.W.Frag) (B : Hp) : D → V → Prop
  | non : Rep K B .non .non
  | bl (b : Bool) : Rep K B (.bl b) (.bl b)
  | int (i : Int) : Rep K B (.int i) (.int i)
  | str (s : Str) : Rep K B (.str s) (.str s)
  | ref (a : Addr) : Rep K B (.ref a) (.ref a)
  | ty (n : String) : Rep K B (.ty n) (.ty n)
  | lst {a : Addr} {vs : List V} {xs : List D} : B a = some (.lst vs) → RepL K B xs vs → Rep K B (.lst xs) (.ref a)
  | tup {a : Addr} {vs : List V} {xs : List D} : B a = some (.tup vs) → RepL K B xs vs → Rep K B (.tup xs) (.ref a)
  | ro {a : Addr} {vs : List V} {xs : List D} : SqL K B a vs → RepL K B xs vs → Rep K B (.ro xs) (.ref a)
  | ct {a : Addr} {vs : List V} {xs : List D} : SqT K B a vs → RepL K B xs vs → Rep K B (.ct xs) (.ref a)
  | obj {a C dx : Addr} {fs : List (Str × D)} {gs : List (Str × V)} : B a = some (.ins C dx gs) → RepF K B fs gs → Rep K B (.obj C fs) (.ref a)
inductive RepL (K : PySem.W.Frag) (B : Hp) : List D → List V → Prop
  | nil : RepL K B [] []
  | cons {d : D} {v : V} {ds : List D} {vs : List V} : Rep K B d v → RepL K B ds vs → RepL K B (d :: ds) (v :: vs)
inductive RepF (K : PySem.W.Frag) (B : Hp) : List (Str × D) → List (Str × V) → Prop
  | nil : RepF K B [] []
  | cons {f : Str} {d : D} {v : V} {ds : List (Str × D)} {vs : List (Str × V)} : Rep K B d v → RepF K B ds vs → RepF K B ((f, d) :: ds) ((f, v) :: vs)
end
section
variable {K : PySem.W.Frag} {B B' : Hp}
mutual
theorem Rep.up (e : Same B B') : ∀ {d : D} {v : V}, Rep K B d v → Rep K B' d v
  | _, _, .non => .non
  | _, _, .bl b => .bl b
  | _, _, .int i => .int i
  | _, _, .str s => .str s
  | _, _, .ref a => .ref a
  | _, _, .ty n => .ty n
  | _, _, .lst h r => .lst (e _ _ h) (RepL.up e r)
  | _, _, .tup h r => .tup (e _ _ h) (RepL.up e r)
  | _, _, .ro h r => .ro (e.seq h) (RepL.up e r)
  | _, _, .ct h r => .ct (by
      rcases h with (h | ⟨o, h⟩) | h
      · exact .inl (.inl (e _ _ h))
      · exact .inl (.inr ⟨o, e _ _ h⟩)
      · exact .inr h) (RepL.up e r)
  | _, _, .obj h r => .obj (e _ _ h) (RepF.up e r)
theorem RepL.up (e : Same B B') : ∀ {ds : List D} {vs : List V}, RepL K B ds vs → RepL K B' ds vs
  | _, _, .nil => .nil
  | _, _, .cons h r => .cons (Rep.up e h) (RepL.up e r)
theorem RepF.up (e : Same B B') : ∀ {ds : List (Str × D)} {vs : List (Str × V)}, RepF K B ds vs → RepF K B' ds vs
  | _, _, .nil => .nil
  | _, _, .cons h r => .cons (Rep.up e h) (RepF.up e r)
end
theorem RepL.length : ∀ {ds : List D} {vs : List V}, RepL K B ds vs → ds.length = vs.length
  | _, _, .nil => rfl
  | _, _, .cons _ r => by simp [RepL.length r]
theorem RepL.get : ∀ {ds : List D} {vs : List V} {i : Nat} {d : D}, RepL K B ds vs → ds[i]? = some d → ∃ v, vs[i]? = some v ∧ Rep K B d v
  | _, _, _, _, .nil, e => by simp at e
  | _, _, 0, _, .cons r _, e => by simp at e; subst e; exact ⟨_, rfl, r⟩
  | _, _, i + 1, d, .cons _ t, e => by
    obtain ⟨u, h1, h2⟩ := RepL.get (i := i) (d := d) t (by simpa using e)
    exact ⟨u, by simpa using h1, h2⟩
theorem RepL.getV : ∀ {ds : List D} {vs : List V} {i : Nat} {v : V}, RepL K B ds vs → vs[i]? = some v → ∃ d, ds[i]? = some d ∧ Rep K B d v
  | _, _, _, _, .nil, e => by simp at e
  | _, _, 0, _, .cons r _, e => by simp at e; subst e; exact ⟨_, rfl, r⟩
  | _, _, i + 1, d, .cons _ t, e => by
    obtain ⟨u, h1, h2⟩ := RepL.getV (i := i) (v := d) t (by simpa using e)
    exact ⟨u, by simpa using h1, h2⟩
theorem RepL.append : ∀ {ds es : List D} {vs ws : List V}, RepL K B ds vs → RepL K B es ws → RepL K B (ds ++ es) (vs ++ ws)
  | _, _, _, _, .nil, s => s
  | _, _, _, _, .cons r t, s => .cons r (RepL.append t s)
theorem RepL.take : ∀ {ds : List D} {vs : List V} (n : Nat), RepL K B ds vs → RepL K B (ds.take n) (vs.take n)
  | _, _, 0, _ => .nil
  | _, _, _ + 1, .nil => .nil
  | _, _, n + 1, .cons r t => .cons r (RepL.take n t)
theorem RepL.drop : ∀ {ds : List D} {vs : List V} (n : Nat), RepL K B ds vs → RepL K B (ds.drop n) (vs.drop n)
  | _, _, 0, r => r
  | _, _, _ + 1, .nil => .nil
  | _, _, n + 1, .cons _ t => RepL.drop n t
theorem RepL.set {d : D} {v : V} (r : Rep K B d v) : ∀ {ds : List D} {vs : List V} (i : Nat), RepL K B ds vs → RepL K B (ds.set i d) (vs.set i v)
  | _, _, _, .nil => .nil
  | _, _, 0, .cons _ t => .cons r t
  | _, _, i + 1, .cons q t => .cons q (RepL.set r i t)
theorem RepL.rep {ds : List D} {vs : List V} (r : RepL K B ds vs) : ∀ k : Nat, RepL K B (List.replicate k ds).flatten (List.replicate k vs).flatten
  | 0 => .nil
  | k + 1 => by
    simp only [List.replicate_succ, List.flatten_cons]
    exact r.append (r.rep k)
theorem RepL.rev : ∀ {ds : List D} {vs : List V}, RepL K B ds vs → RepL K B ds.reverse vs.reverse
  | _, _, .nil => .nil
  | _, _, .cons r t => by
    simp only [List.reverse_cons]
    exact (RepL.rev t).append (.cons r .nil)
theorem RepF.look : ∀ {fs : List (Str × D)} {gs : List (Str × V)} {f : Str} {d : D}, RepF K B fs gs → fs.lookup f = some d → ∃ v, gs.lookup f = some v ∧ Rep K B d v
  | _, _, _, _, .nil, e => by simp at e
  | (g, x) :: r, (_, y) :: s, f, d, .cons h t, e => by
    by_cases q : f = g
    · subst q
      simp [List.lookup] at e ⊢
      subst e
      exact h
    · have q' : (f == g) = false := by simpa using q
      simp only [List.lookup, q'] at e ⊢
      exact RepF.look t e
theorem RepF.lookNone : ∀ {fs : List (Str × D)} {gs : List (Str × V)} {f : Str}, RepF K B fs gs → fs.lookup f = none → gs.lookup f = none
  | _, _, _, .nil, e => by simp
  | (g, x) :: r, (_, y) :: s, f, .cons h t, e => by
    by_cases q : f = g
    · subst q
      simp [List.lookup] at e
    · have q' : (f == g) = false := by simpa using q
      simp only [List.lookup, q'] at e ⊢
      exact RepF.lookNone t e
end

/-! ### slots and states -/
inductive Sl where
  | un | v (d : D) | o (ds : List D)
  deriving Inhabited
abbrev En := List Sl

theorem set_at {α : Type} {l : List α} {i : Nat} {x y : α} (h : (l.set i x)[i]? = some y) : i < l.length ∧ y = x := by
  by_cases hl : i < l.length
  · rw [List.getElem?_set_self hl] at h
    exact ⟨hl, (Option.some.inj h).symm⟩
  · have : (l.set i x)[i]? = none := List.getElem?_eq_none_iff.mpr (by simp; omega)
    rw [this] at h
    cases h
theorem set_un {ρ : List Sl} {i : Nat} {x y : Sl} (h : (ρ.set i x)[i]? = some y) (n : y ≠ x) : False := n (set_at h).2

structure Up (B H B' H' : Hp) : Prop where
  b : Same B B'
  bh : Same B' H'
  h : Same H H'
  out : ∀ a, H a ≠ none → B a = none → B' a = none
theorem Up.refl {B H : Hp} (s : Same B H) : Up B H B H := ⟨Same.refl _, s, Same.refl _, fun _ _ h => h⟩
theorem Same.some {H H' : Hp} (s : Same H H') {a : Addr} (h : H a ≠ none) : H' a ≠ none := by
  cases e : H a with
  | none => exact absurd e h
  | some o => rw [s a o e]; exact fun z => nomatch z
theorem Up.trans {B H B1 H1 B2 H2 : Hp} (p : Up B H B1 H1) (q : Up B1 H1 B2 H2) : Up B H B2 H2 :=
  ⟨p.b.trans q.b, q.bh, p.h.trans q.h, fun a h n => q.out a (VL.Same.some p.h h) (p.out a h n)⟩
/-- a new object, shared -/
theorem Up.new {B H : Hp} {p : Addr} {o : HO} (s : Same B H) (h : H p = none) : Up B H (upd B p o) (upd H p o) := by
  have hb : B p = none := s.free h
  refine ⟨fun a u e => ?_, fun a u e => ?_, fun a u e => ?_, fun a e n => ?_⟩
  · rw [upd_ne (ne_of_none e hb)]; exact e
  · by_cases q : a = p
    · subst q; rw [upd_same] at e ⊢; exact e
    · rw [upd_ne q] at e ⊢; exact s a u e
  · rw [upd_ne (ne_of_none e h)]; exact e
  · have q : a ≠ p := fun z => by subst z; exact e h
    rw [upd_ne q]; exact n
/-- a new object, kept apart -/
theorem Up.apart {B H : Hp} {p : Addr} {o : HO} (s : Same B H) (h : H p = none) : Up B H B (upd H p o) := by
  have hb : B p = none := s.free h
  refine ⟨Same.refl _, fun a u e => ?_, fun a u e => ?_, fun a e n => n⟩
  · rw [upd_ne (ne_of_none e hb)]; exact s a u e
  · rw [upd_ne (ne_of_none e h)]; exact e
/-- what stands apart is shared from now on -/
theorem Up.share {B H B' H' : Hp} {p : Addr} {o : HO} (u : Up B H B' H') (h : H p = none) (hp : H' p = some o) (n : B' p = none) : Up B H (upd B' p o) H' := by
  refine ⟨fun a u' e => ?_, fun a u' e => ?_, u.h, fun a e k => ?_⟩
  · have := u.b a u' e
    rw [upd_ne (ne_of_none this n)]; exact this
  · by_cases q : a = p
    · subst q; rw [upd_same] at e; rw [hp]; exact e
    · rw [upd_ne q] at e; exact u.bh a u' e
  · have q : a ≠ p := fun z => by subst z; exact e h
    rw [upd_ne q]; exact u.out a e k

structure RS (K : PySem.W.Frag) (Fo B H : Hp) (ρ : En) (σ : L2.St) : Prop where
  len : σ.length = ρ.length
  bh : Same B H
  fh : Same Fo H
  fb : ∀ a, Fo a ≠ none → B a = none
  vals : ∀ (i : Nat) (d : D), ρ[i]? = some (.v d) → ∃ x, σ[i]? = some (some x) ∧ Rep K B d x
  owns : ∀ (i : Nat) (ds : List D), ρ[i]? = some (.o ds) → ∃ p vs, σ[i]? = some (some (.ref p)) ∧ H p = some (.lst vs) ∧ RepL K B ds vs ∧ B p = none ∧ Fo p = none
  sep : ∀ (i j : Nat) (p : Addr) (xs ys : List D), i ≠ j → ρ[i]? = some (.o xs) → ρ[j]? = some (.o ys) → σ[i]? = some (some (.ref p)) → σ[j]? = some (some (.ref p)) → False
section
variable {K : PySem.W.Frag} {Fo B H B' H' : Hp} {ρ : En} {σ : L2.St}
theorem RS.up (r : RS K Fo B H ρ σ) (u : Up B H B' H') : RS K Fo B' H' ρ σ where
  len := r.len
  bh := u.bh
  fh := r.fh.trans u.h
  fb := fun a h => u.out a (VL.Same.some r.fh h) (r.fb a h)
  vals := fun i d e => let ⟨x, h1, h2⟩ := r.vals i d e; ⟨x, h1, h2.up u.b⟩
  owns := fun i ds e => let ⟨p, vs, h1, h2, h3, h4, h5⟩ := r.owns i ds e; ⟨p, vs, h1, u.h _ _ h2, h3.up u.b, u.out p (by rw [h2]; exact fun z => nomatch z) h4, h5⟩
  sep := r.sep
theorem RS.same (r : RS K Fo B H ρ σ) : Up B H B H := Up.refl r.bh
/-- a slot is given a shared value -/
theorem RS.setV (r : RS K Fo B H ρ σ) (i : Nat) {d : D} {x : V} (h : Rep K B d x) : RS K Fo B H (ρ.set i (.v d)) (σ.set i (some x)) where
  len := by simp [r.len]
  bh := r.bh
  fh := r.fh
  fb := r.fb
  vals := fun j e q => by
    by_cases hj : i = j
    · subst hj
      obtain ⟨hl, e1⟩ := set_at q
      cases e1
      rw [List.getElem?_set_self (by rw [r.len]; exact hl)]
      exact ⟨x, rfl, h⟩
    · rw [List.getElem?_set_ne hj] at q
      rw [List.getElem?_set_ne hj]
      exact r.vals j e q
  owns := fun j e q => by
    by_cases hj : i = j
    · subst hj
      exact (set_un q (fun z => nomatch z)).elim
    · rw [List.getElem?_set_ne hj] at q
      rw [List.getElem?_set_ne hj]
      exact r.owns j e q
  sep := fun j k p xs ys hjk q1 q2 e1 e2 => by
    by_cases hj : i = j
    · subst hj
      exact (set_un q1 (fun z => nomatch z)).elim
    · by_cases hk : i = k
      · subst hk
        exact (set_un q2 (fun z => nomatch z)).elim
      · rw [List.getElem?_set_ne hj] at q1 e1
        rw [List.getElem?_set_ne hk] at q2 e2
        exact r.sep j k p xs ys hjk q1 q2 e1 e2
/-- a slot is forgotten, whatever it holds -/
theorem RS.setU (r : RS K Fo B H ρ σ) (i : Nat) (x : Option V) : RS K Fo B H (ρ.set i .un) (σ.set i x) where
  len := by simp [r.len]
  bh := r.bh
  fh := r.fh
  fb := r.fb
  vals := fun j e q => by
    by_cases hj : i = j
    · subst hj
      exact (set_un q (fun z => nomatch z)).elim
    · rw [List.getElem?_set_ne hj] at q
      rw [List.getElem?_set_ne hj]
      exact r.vals j e q
  owns := fun j e q => by
    by_cases hj : i = j
    · subst hj
      exact (set_un q (fun z => nomatch z)).elim
    · rw [List.getElem?_set_ne hj] at q
      rw [List.getElem?_set_ne hj]
      exact r.owns j e q
  sep := fun j k p xs ys hjk q1 q2 e1 e2 => by
    by_cases hj : i = j
    · subst hj
      exact (set_un q1 (fun z => nomatch z)).elim
    · by_cases hk : i = k
      · subst hk
        exact (set_un q2 (fun z => nomatch z)).elim
      · rw [List.getElem?_set_ne hj] at q1 e1
        rw [List.getElem?_set_ne hk] at q2 e2
        exact r.sep j k p xs ys hjk q1 q2 e1 e2
/-- a slot is given a list of its own, new at p -/
theorem RS.setO (r : RS K Fo B H ρ σ) (i : Nat) {ds : List D} {p : Addr} {vs : List V} (hp : H p = some (.lst vs)) (h : RepL K B ds vs) (hb : B p = none) (hf : Fo p = none)
    (nw : ∀ (j : Nat) xs, j ≠ i → ρ[j]? = some (.o xs) → σ[j]? ≠ some (some (.ref p))) : RS K Fo B H (ρ.set i (.o ds)) (σ.set i (some (.ref p))) where
  len := by simp [r.len]
  bh := r.bh
  fh := r.fh
  fb := r.fb
  vals := fun j e q => by
    by_cases hj : i = j
    · subst hj
      exact (set_un q (fun z => nomatch z)).elim
    · rw [List.getElem?_set_ne hj] at q
      rw [List.getElem?_set_ne hj]
      exact r.vals j e q
  owns := fun j e q => by
    by_cases hj : i = j
    · subst hj
      obtain ⟨hl, e1⟩ := set_at q
      cases e1
      rw [List.getElem?_set_self (by rw [r.len]; exact hl)]
      exact ⟨p, vs, rfl, hp, h, hb, hf⟩
    · rw [List.getElem?_set_ne hj] at q
      rw [List.getElem?_set_ne hj]
      exact r.owns j e q
  sep := fun j k p' xs ys hjk q1 q2 e1 e2 => by
    by_cases hj : i = j
    · subst hj
      rw [List.getElem?_set_ne hjk] at q2 e2
      have z := (set_at e1).2
      cases z
      exact nw k ys (Ne.symm hjk) q2 e2
    · by_cases hk : i = k
      · subst hk
        rw [List.getElem?_set_ne hj] at q1 e1
        have z := (set_at e2).2
        cases z
        exact nw j xs hjk q1 e1
      · rw [List.getElem?_set_ne hj] at q1 e1
        rw [List.getElem?_set_ne hk] at q2 e2
        exact r.sep j k p' xs ys hjk q1 q2 e1 e2
/-- an own list is written -/
theorem RS.write (r : RS K Fo B H ρ σ) {i : Nat} {ds es : List D} {p : Addr} {ws : List V} (hi : ρ[i]? = some (.o ds)) (hs : σ[i]? = some (some (.ref p))) (h : RepL K B es ws) :
    RS K Fo B (upd H p (.lst ws)) (ρ.set i (.o es)) σ := by
  obtain ⟨p', vs, h1, h2, h3, h4, h5⟩ := r.owns i ds hi
  rw [hs] at h1
  cases h1
  have hl : i < σ.length := (List.getElem?_eq_some_iff.mp hs).1
  have hσ : σ.set i (some (.ref p)) = σ := by
    apply List.ext_getElem?
    intro j
    by_cases hj : i = j
    · subst hj
      rw [List.getElem?_set_self hl, hs]
    · rw [List.getElem?_set_ne hj]
  have keep : ∀ a o, a ≠ p → H a = some o → upd H p (.lst ws) a = some o := fun a o n e => by rw [upd_ne n]; exact e
  have r' : RS K Fo B (upd H p (.lst ws)) (ρ.set i .un) (σ.set i (some (.ref p))) := by
    have r0 := r.setU i (some (.ref p))
    refine ⟨r0.len, fun a o e => keep a o (ne_of_none e h4) (r.bh a o e), fun a o e => keep a o (ne_of_none e h5) (r.fh a o e), r.fb, r0.vals, fun j xs q => ?_, r0.sep⟩
    obtain ⟨p2, vs2, a1, a2, a3, a4, a5⟩ := r0.owns j xs q
    refine ⟨p2, vs2, a1, keep _ _ ?_ a2, a3, a4, a5⟩
    rintro rfl
    have hj : i ≠ j := by
      rintro rfl
      exact (set_un q (fun z => nomatch z)).elim
    rw [List.getElem?_set_ne hj] at q a1
    exact r.sep i j _ _ _ hj hi q hs a1
  have r2 := r'.setO i (ds := es) (p := p) (vs := ws) upd_same h h4 h5 (fun j xs hj q e => by
    rw [List.getElem?_set_ne (Ne.symm hj)] at q e
    exact r.sep i j _ _ _ (Ne.symm hj) hi q hs e)
  rw [List.set_set, List.set_set, hσ] at r2
  exact r2
/-- an own list is shared from now on -/
theorem RS.freeze (r : RS K Fo B H ρ σ) {i : Nat} {ds : List D} (hi : ρ[i]? = some (.o ds)) : ∃ B', Same B B' ∧ RS K Fo B' H (ρ.set i (.v (.lst ds))) σ := by
  obtain ⟨p, vs, h1, h2, h3, h4, h5⟩ := r.owns i ds hi
  have hl : i < σ.length := (List.getElem?_eq_some_iff.mp h1).1
  have hσ : σ.set i (some (.ref p)) = σ := by
    apply List.ext_getElem?
    intro j
    by_cases hj : i = j
    · subst hj
      rw [List.getElem?_set_self hl, h1]
    · rw [List.getElem?_set_ne hj]
  have sb : Same B (upd B p (.lst vs)) := fun a o e => by rw [upd_ne (ne_of_none e h4)]; exact e
  have r0 := r.setU i (some (.ref p))
  have r' : RS K Fo (upd B p (.lst vs)) H (ρ.set i .un) (σ.set i (some (.ref p))) := by
    refine ⟨r0.len, fun a o e => ?_, r0.fh, fun a e => ?_, fun j d q => ?_, fun j xs q => ?_, r0.sep⟩
    · by_cases q : a = p
      · subst q; rw [upd_same] at e; rw [h2]; exact e
      · rw [upd_ne q] at e; exact r.bh a o e
    · have q : a ≠ p := fun z => by subst z; exact e h5
      rw [upd_ne q]; exact r.fb a e
    · obtain ⟨x, a1, a2⟩ := r0.vals j d q
      exact ⟨x, a1, a2.up sb⟩
    · obtain ⟨p2, vs2, a1, a2, a3, a4, a5⟩ := r0.owns j xs q
      refine ⟨p2, vs2, a1, a2, a3.up sb, ?_, a5⟩
      have np : p2 ≠ p := by
        rintro rfl
        have hj : i ≠ j := by
          rintro rfl
          exact (set_un q (fun z => nomatch z)).elim
        rw [List.getElem?_set_ne hj] at q a1
        exact r.sep i j _ _ _ hj hi q h1 a1
      rw [upd_ne np]; exact a4
  have r2 := r'.setV i (d := .lst ds) (x := .ref p) (.lst upd_same (h3.up sb))
  rw [List.set_set, List.set_set, hσ] at r2
  exact ⟨_, sb, r2⟩
end
end VL
set_option maxRecDepth 100000
set_option maxHeartbeats 4000000
namespace VL
open PySem PySem.Spec PyProof.Rows L2

/-- read at the top in the whole heap, its items shared -/
def RepT (K : PySem.W.Frag) (B H : Hp) (d : D) (v : V) : Prop := Rep K B d v ∨ ∃ xs p vs, d = .lst xs ∧ v = .ref p ∧ H p = some (.lst vs) ∧ RepL K B xs vs
theorem RepT.of {K : PySem.W.Frag} {B H : Hp} {d : D} {v : V} (h : Rep K B d v) : RepT K B H d v := .inl h
theorem RepT.up {K : PySem.W.Frag} {B H B' H' : Hp} {d : D} {v : V} (h : RepT K B H d v) (u : Up B H B' H') : RepT K B' H' d v := by
  rcases h with h | ⟨xs, p, vs, e1, e2, e3, e4⟩
  · exact .inl (h.up u.b)
  · exact .inr ⟨xs, p, vs, e1, e2, u.h _ _ e3, e4.up u.b⟩
abbrev RepTL (K : PySem.W.Frag) (B H : Hp) : List D → List V → Prop := Paired (RepT K B H)

/-! ### what is wanted behind -/
def EPost (K : PySem.W.Frag) (W : WX) (σ : L2.St) (B H : Hp) (r : R D) (Q : VK) : Prop := match r with
  | .ok d => ∀ v B' H', Up B H B' H' → Rep K B' d v → Q v H'
  | .er C => ∀ B' H', Up B H B' H' → W (.ref C) none σ H'
  | .no => False
def PPost (K : PySem.W.Frag) (W : WX) (σ : L2.St) (B H : Hp) (r : R D) (Q : VK) : Prop := match r with
  | .ok d => ∀ v B' H', Up B H B' H' → RepT K B' H' d v → Q v H'
  | .er C => ∀ B' H', Up B H B' H' → W (.ref C) none σ H'
  | .no => False
def NPost (K : PySem.W.Frag) (W : WX) (σ : L2.St) (B H : Hp) (r : R (List D)) (Q : VK) : Prop := match r with
  | .ok ds => ∀ p vs B' H', Up B H B' H' → B' p = none → H p = none → H' p = some (.lst vs) → RepL K B' ds vs → Q (.ref p) H'
  | .er C => ∀ B' H', Up B H B' H' → W (.ref C) none σ H'
  | .no => False
def TPost (W : WX) (σ : L2.St) (B H : Hp) (r : R Bool) (Q : Bool → Hp → Prop) : Prop := match r with
  | .ok b => ∀ B' H', Up B H B' H' → Q b H'
  | .er C => ∀ B' H', Up B H B' H' → W (.ref C) none σ H'
  | .no => False
def APost (K : PySem.W.Frag) (W : WX) (σ : L2.St) (B H : Hp) (r : R (List D)) (Q : List V → Hp → Prop) : Prop := match r with
  | .ok ds => ∀ vs B' H', Up B H B' H' → RepL K B' ds vs → Q vs H'
  | .er C => ∀ B' H', Up B H B' H' → W (.ref C) none σ H'
  | .no => False
def APostP (K : PySem.W.Frag) (W : WX) (σ : L2.St) (B H : Hp) (r : R (List D)) (Q : List V → Hp → Prop) : Prop := match r with
  | .ok ds => ∀ vs B' H', Up B H B' H' → RepTL K B' H' ds vs → Q vs H'
  | .er C => ∀ B' H', Up B H B' H' → W (.ref C) none σ H'
  | .no => False

structure VE (X : Cx) (W : WX) (e : Expr) (t : TE) (f : En → R D) : Prop where
  pe : PE X e t
  ok : ∀ Fo B H ρ σ Q, RS X.K Fo B H ρ σ → EPost X.K W σ B H (f ρ) Q → t σ H Q
structure VP (X : Cx) (W : WX) (e : Expr) (t : TE) (f : En → R D) : Prop where
  pe : PE X e t
  ok : ∀ Fo B H ρ σ Q, RS X.K Fo B H ρ σ → PPost X.K W σ B H (f ρ) Q → t σ H Q
structure VN (X : Cx) (W : WX) (e : Expr) (t : TE) (f : En → R (List D)) : Prop where
  pe : PE X e t
  ok : ∀ Fo B H ρ σ Q, RS X.K Fo B H ρ σ → NPost X.K W σ B H (f ρ) Q → t σ H Q
structure VT (X : Cx) (W : WX) (e : Expr) (t : TT) (f : En → R Bool) : Prop where
  pe : PT X e t
  ok : ∀ Fo B H ρ σ Q, RS X.K Fo B H ρ σ → TPost W σ B H (f ρ) Q → t σ H Q
structure VW (X : Cx) (W : WX) (e : Expr) (t : TT) (f : En → R Bool) : Prop where
  pe : PW X e t
  ok : ∀ Fo B H ρ σ Q, RS X.K Fo B H ρ σ → TPost W σ B H (f ρ) Q → t σ H Q
structure VA (X : Cx) (W : WX) (es : List Expr) (t : TA) (f : En → R (List D)) : Prop where
  pe : PA X es t
  ok : ∀ Fo B H ρ σ Q, RS X.K Fo B H ρ σ → APost X.K W σ B H (f ρ) Q → t σ H Q
structure VAP (X : Cx) (W : WX) (es : List Expr) (t : TA) (f : En → R (List D)) : Prop where
  pe : PA X es t
  ok : ∀ Fo B H ρ σ Q, RS X.K Fo B H ρ σ → APostP X.K W σ B H (f ρ) Q → t σ H Q

/-! ### readings of environments -/
def dVar (i : Nat) : En → R D := fun ρ => match ρ[i]? with
  | some (.v d) => .ok d
  | _ => .no
def dPeek (i : Nat) : En → R D := fun ρ => match ρ[i]? with
  | some (.v d) => .ok d
  | some (.o ds) => .ok (.lst ds)
  | _ => .no
def dC (d : D) : En → R D := fun _ => .ok d
def dNew (f : En → R (List D)) : En → R D := fun ρ => (f ρ).bind fun xs => .ok (.lst xs)
def ofO {α : Type} : Option α → R α
  | some a => .ok a
  | none => .no
def dBin (g : D → D → Option D) (fa fb : En → R D) : En → R D := fun ρ => (fa ρ).bind fun x => (fb ρ).bind fun y => ofO (g x y)
def dBinN (g : D → D → Option (List D)) (fa fb : En → R D) : En → R (List D) := fun ρ => (fa ρ).bind fun x => (fb ρ).bind fun y => ofO (g x y)
def dUn (g : D → Option D) (fa : En → R D) : En → R D := fun ρ => (fa ρ).bind fun x => ofO (g x)
def dBl (f : En → R D) : En → R Bool := fun ρ => (f ρ).bind fun x => match x with
  | .bl b => .ok b
  | _ => .no
def dIf {α : Type} (c : En → R Bool) (fa fb : En → R α) : En → R α := fun ρ => (c ρ).bind fun b => if b = true then fa ρ else fb ρ
def dAnd (c d : En → R Bool) : En → R Bool := fun ρ => (c ρ).bind fun b => if b = true then d ρ else .ok false
def dOr (c d : En → R Bool) : En → R Bool := fun ρ => (c ρ).bind fun b => if b = true then .ok true else d ρ
def dNot (c : En → R Bool) : En → R Bool := fun ρ => (c ρ).bind fun b => .ok (!b)
def dAndV (c : En → R Bool) (d : En → R D) : En → R D := fun ρ => (c ρ).bind fun b => if b = true then d ρ else .ok (.bl false)
def dOrV (c : En → R Bool) (d : En → R D) : En → R D := fun ρ => (c ρ).bind fun b => if b = true then .ok (.bl true) else d ρ
def dOfB (c : En → R Bool) : En → R D := fun ρ => (c ρ).bind fun b => .ok (.bl b)
def dNil : En → R (List D) := fun _ => .ok []
def dCons (f : En → R D) (g : En → R (List D)) : En → R (List D) := fun ρ => (f ρ).bind fun x => (g ρ).bind fun xs => .ok (x :: xs)
def dCall {α : Type} (g : List D → R α) (fa : En → R (List D)) : En → R α := fun ρ => (fa ρ).bind g
def dCB (g : List D → Option D) (fa : En → R (List D)) : En → R D := fun ρ => (fa ρ).bind fun xs => ofO (g xs)
def dCBN (g : List D → Option (List D)) (fa : En → R (List D)) : En → R (List D) := fun ρ => (fa ρ).bind fun xs => ofO (g xs)

section
variable {X : Cx} {W : WX} {e a b c : Expr} {es : List Expr} {t ta tb tc : TE} {tt uu : TT} {tA tr : TA} {f fa fb fc : En → R D} {pos : Pos}
/-! ### between the judgements -/
theorem epost_of_p {K : PySem.W.Frag} {σ : L2.St} {B H : Hp} {r : R D} {Q : VK} (h : PPost K W σ B H r Q) : EPost K W σ B H r Q := by
  cases r with
  | ok d => exact fun v B' H' u q => h v B' H' u (.of q)
  | er C => exact h
  | no => exact h
theorem vp_of (h : VE X W e t f) : VP X W e t f := ⟨h.pe, fun Fo B H ρ σ Q r q => h.ok Fo B H ρ σ Q r (epost_of_p q)⟩
theorem vn_ve {f : En → R (List D)} (h : VN X W e t f) : VE X W e t (dNew f) := ⟨h.pe, fun Fo B H ρ σ Q r q => h.ok Fo B H ρ σ Q r (by
  unfold dNew at q
  cases hf : f ρ with
  | ok xs =>
    rw [hf] at q
    intro p vs B' H' u nb nh hp hr
    refine q (.ref p) (upd B' p (.lst vs)) H' (u.share nh hp nb) (.lst upd_same (hr.up fun a o e => ?_))
    rw [upd_ne (ne_of_none e nb)]
    exact e
  | er C => rw [hf] at q; exact q
  | no => rw [hf] at q; exact q)⟩
theorem vw_pt {f : En → R Bool} (h : VW X W e tt f) : VT X W e tt f := ⟨h.pe.pt, h.ok⟩

/-- behind a first part that gives d, the wish at its end -/
theorem EPost.next {K : PySem.W.Frag} {σ : L2.St} {B H B1 H1 : Hp} {r : R D} {Q : VK} (u : Up B H B1 H1) (h : EPost K W σ B H r Q) : EPost K W σ B1 H1 r Q := by
  cases r with
  | ok d => exact fun v B' H' u' q => h v B' H' (u.trans u') q
  | er C => exact fun B' H' u' => h B' H' (u.trans u')
  | no => exact h
theorem PPost.next {K : PySem.W.Frag} {σ : L2.St} {B H B1 H1 : Hp} {r : R D} {Q : VK} (u : Up B H B1 H1) (h : PPost K W σ B H r Q) : PPost K W σ B1 H1 r Q := by
  cases r with
  | ok d => exact fun v B' H' u' q => h v B' H' (u.trans u') q
  | er C => exact fun B' H' u' => h B' H' (u.trans u')
  | no => exact h
theorem NPost.next {K : PySem.W.Frag} {σ : L2.St} {B H B1 H1 : Hp} {r : R (List D)} {Q : VK} (u : Up B H B1 H1) (h : NPost K W σ B H r Q) : NPost K W σ B1 H1 r Q := by
  cases r with
  | ok d => exact fun p vs B' H' u' n1 n2 q1 q => h p vs B' H' (u.trans u') n1 (u.h.free n2) q1 q
  | er C => exact fun B' H' u' => h B' H' (u.trans u')
  | no => exact h
theorem TPost.next {σ : L2.St} {B H B1 H1 : Hp} {r : R Bool} {Q : Bool → Hp → Prop} (u : Up B H B1 H1) (h : TPost W σ B H r Q) : TPost W σ B1 H1 r Q := by
  cases r with
  | ok d => exact fun B' H' u' => h B' H' (u.trans u')
  | er C => exact fun B' H' u' => h B' H' (u.trans u')
  | no => exact h
theorem APost.next {K : PySem.W.Frag} {σ : L2.St} {B H B1 H1 : Hp} {r : R (List D)} {Q : List V → Hp → Prop} (u : Up B H B1 H1) (h : APost K W σ B H r Q) : APost K W σ B1 H1 r Q := by
  cases r with
  | ok d => exact fun v B' H' u' q => h v B' H' (u.trans u') q
  | er C => exact fun B' H' u' => h B' H' (u.trans u')
  | no => exact h
theorem APostP.next {K : PySem.W.Frag} {σ : L2.St} {B H B1 H1 : Hp} {r : R (List D)} {Q : List V → Hp → Prop} (u : Up B H B1 H1) (h : APostP K W σ B H r Q) : APostP K W σ B1 H1 r Q := by
  cases r with
  | ok d => exact fun v B' H' u' q => h v B' H' (u.trans u') q
  | er C => exact fun B' H' u' => h B' H' (u.trans u')
  | no => exact h

/-! ### names, constants -/
theorem ve_var (i : Nat) {x : Str} {pos : Pos} (hN : X.N[i]? = some x := by rfl) (hv : Vis X.env.scope x := by first | exact Or.inl rfl | exact Or.inr (Or.inl rfl) | exact Or.inr (Or.inr rfl)) (hd : (x == ("__debug__" : Str)) = false := by decide)
    (hcd : (x == ("__classdict__" : Str)) = false := by decide) : VE X W (.Name x pos) (tVar i) (dVar i) := ⟨pe_var hN hv hd hcd, fun Fo B H ρ σ Q r q => by
  unfold dVar at q
  split at q
  · rename_i d h
    obtain ⟨v, h1, h2⟩ := r.vals i d h
    exact ⟨v, h1, q v B H r.same h2⟩
  · exact q.elim⟩
theorem vp_var (i : Nat) {x : Str} {pos : Pos} (hN : X.N[i]? = some x := by rfl) (hv : Vis X.env.scope x := by first | exact Or.inl rfl | exact Or.inr (Or.inl rfl) | exact Or.inr (Or.inr rfl)) (hd : (x == ("__debug__" : Str)) = false := by decide)
    (hcd : (x == ("__classdict__" : Str)) = false := by decide) : VP X W (.Name x pos) (tVar i) (dPeek i) := ⟨pe_var hN hv hd hcd, fun Fo B H ρ σ Q r q => by
  unfold dPeek at q
  split at q
  · rename_i d h
    obtain ⟨v, h1, h2⟩ := r.vals i d h
    exact ⟨v, h1, q v B H r.same (.of h2)⟩
  · rename_i ds h
    obtain ⟨p, vs, h1, h2, h3, _⟩ := r.owns i ds h
    exact ⟨_, h1, q _ B H r.same (.inr ⟨ds, p, vs, rfl, rfl, h2, h3⟩)⟩
  · exact q.elim⟩
theorem ve_c {v : V} {d : D} (h : PE X e (tC v)) (r : ∀ B, Rep X.K B d v) : VE X W e (tC v) (dC d) := ⟨h, fun Fo B H ρ σ Q rs q => q v B H rs.same (r B)⟩
theorem ve_int {i j pos} : VE X W (.Constant (.int i) j pos) (tC (.int i)) (dC (.int i)) := ve_c pe_int fun _ => .int i
theorem ve_bl {i j pos} : VE X W (.Constant (.bool i) j pos) (tC (.bl i)) (dC (.bl i)) := ve_c pe_bl fun _ => .bl i
theorem ve_non {j pos} : VE X W (.Constant .none j pos) (tC .non) (dC .non) := ve_c pe_non fun _ => .non
theorem ve_str {i j pos} : VE X W (.Constant (.str i) j pos) (tC (.str i)) (dC (.str i)) := ve_c pe_str fun _ => .str i
/-- a module's constant: an int, a text, a class, a def -/
theorem ve_glob {x : Str} {v : V} {d : D} {u : Value} {pos : Pos} (hm : X.mg x = some u) (r : RelV v u) (hr : ∀ B, Rep X.K B d v) (hg : Gl X x := by rfl) (hd : (x == ("__debug__" : Str)) = false := by decide) : VE X W (.Name x pos) (tC v) (dC d) :=
  ve_c (pe_glob hg hm r hd) hr

/-! ### operators on two values -/
/-- a reading on two values that gives g's value -/
def R2Ok (K : PySem.W.Frag) (r : R2) (g : D → D → Option D) : Prop := ∀ B H x y v w Q d, Same B H → RepT K B H x v → RepT K B H y w → g x y = some d →
  (∀ z B' H', Up B H B' H' → Rep K B' d z → Q z H') → r v w H Q
def R2N (K : PySem.W.Frag) (r : R2) (g : D → D → Option (List D)) : Prop := ∀ B H x y v w Q d, Same B H → RepT K B H x v → RepT K B H y w → g x y = some d →
  (∀ p vs B' H', Up B H B' H' → B' p = none → H p = none → H' p = some (.lst vs) → RepL K B' d vs → Q (.ref p) H') → r v w H Q
theorem tOp_ok {r : R2} {g : D → D → Option D} (hr : R2Ok X.K r g) (ha : VP X W a ta fa) (hb : VP X W b tb fb) {Fo B H ρ σ Q} (rs : RS X.K Fo B H ρ σ) (q : EPost X.K W σ B H (dBin g fa fb ρ) Q) : tOp r ta tb σ H Q := by
  unfold dBin at q
  refine ha.ok Fo B H ρ σ _ rs ?_
  cases h1 : fa ρ with
  | no => rw [h1] at q; exact q
  | er C => rw [h1] at q; exact q
  | ok x =>
    rw [h1, R.bind_ok] at q
    intro v B1 H1 u1 r1
    refine hb.ok Fo B1 H1 ρ σ _ (rs.up u1) ?_
    cases h2 : fb ρ with
    | no => rw [h2] at q; exact q
    | er C =>
      rw [h2] at q
      exact fun B' H' u => q B' H' (u1.trans u)
    | ok y =>
      rw [h2, R.bind_ok] at q
      intro w B2 H2 u2 r2
      cases h3 : g x y with
      | none => rw [h3] at q; exact q.elim
      | some d =>
        rw [h3] at q
        exact hr B2 H2 x y v w Q d u2.bh (r1.up u2) r2 h3 fun z B' H' u' hz => q z B' H' ((u1.trans u2).trans u') hz
theorem tOp_okN {r : R2} {g : D → D → Option (List D)} (hr : R2N X.K r g) (ha : VP X W a ta fa) (hb : VP X W b tb fb) {Fo B H ρ σ Q} (rs : RS X.K Fo B H ρ σ) (q : NPost X.K W σ B H (dBinN g fa fb ρ) Q) : tOp r ta tb σ H Q := by
  unfold dBinN at q
  refine ha.ok Fo B H ρ σ _ rs ?_
  cases h1 : fa ρ with
  | no => rw [h1] at q; exact q
  | er C => rw [h1] at q; exact q
  | ok x =>
    rw [h1, R.bind_ok] at q
    intro v B1 H1 u1 r1
    refine hb.ok Fo B1 H1 ρ σ _ (rs.up u1) ?_
    cases h2 : fb ρ with
    | no => rw [h2] at q; exact q
    | er C =>
      rw [h2] at q
      exact fun B' H' u => q B' H' (u1.trans u)
    | ok y =>
      rw [h2, R.bind_ok] at q
      intro w B2 H2 u2 r2
      cases h3 : g x y with
      | none => rw [h3] at q; exact q.elim
      | some d =>
        rw [h3] at q
        exact hr B2 H2 x y v w Q d u2.bh (r1.up u2) r2 h3 fun p vs B' H' u' n1 n2 q1 hz => q p vs B' H' ((u1.trans u2).trans u') n1 ((u1.trans u2).h.free n2) q1 hz
theorem ve_op {op : Operator} {r : R2} {g : D → D → Option D} (ho : OpR X (binaryOp op) r) (hr : R2Ok X.K r g) (ha : VP X W a ta fa) (hb : VP X W b tb fb) : VE X W (.BinOp a op b pos) (tOp r ta tb) (dBin g fa fb) :=
  ⟨pe_op ho ha.pe hb.pe, fun _ _ _ _ _ _ rs q => tOp_ok hr ha hb rs q⟩
theorem vn_op {op : Operator} {r : R2} {g : D → D → Option (List D)} (ho : OpR X (binaryOp op) r) (hr : R2N X.K r g) (ha : VP X W a ta fa) (hb : VP X W b tb fb) : VN X W (.BinOp a op b pos) (tOp r ta tb) (dBinN g fa fb) :=
  ⟨pe_op ho ha.pe hb.pe, fun _ _ _ _ _ _ rs q => tOp_okN hr ha hb rs q⟩
theorem ve_cmp {op : CmpOp} {r : R2} {g : D → D → Option D} (ho : OpR X (compareOp op) r) (hr : R2Ok X.K r g) (ha : VP X W a ta fa) (hb : VP X W b tb fb) (hm : behindInMarks op b = false := by first | exact nomark _ (by decide) (by decide) | rfl | with_unfolding_all rfl) :
    VE X W (.Compare a [op] [b] pos) (tOp r ta tb) (dBin g fa fb) :=
  ⟨pe_cmpR ho ha.pe hb.pe hm, fun _ _ _ _ _ _ rs q => tOp_ok hr ha hb rs q⟩
theorem tOp_okT {r : R2} {g : D → D → Option D} (hr : R2Ok X.K r g) (ha : VP X W a ta fa) (hb : VP X W b tb fb) {Fo B H ρ σ Q} (rs : RS X.K Fo B H ρ σ) (q : TPost W σ B H (dBl (dBin g fa fb) ρ) Q) : tTest (tOp r ta tb) σ H Q := by
  unfold dBl at q
  refine tOp_ok hr ha hb rs ?_
  cases h : dBin g fa fb ρ with
  | no => rw [h] at q; exact q
  | er C => rw [h] at q; exact q
  | ok d =>
    rw [h, R.bind_ok] at q
    intro v B' H' u hv
    cases hv <;> first | exact q.elim | exact ⟨_, rfl, q B' H' u⟩
theorem vt_cmp {op : CmpOp} {r : R2} {g : D → D → Option D} (ho : OpR X (compareOp op) r) (hr : R2Ok X.K r g) (ha : VP X W a ta fa) (hb : VP X W b tb fb) (hm : behindInMarks op b = false := by first | exact nomark _ (by decide) (by decide) | rfl | with_unfolding_all rfl) :
    VT X W (.Compare a [op] [b] pos) (tTest (tOp r ta tb)) (dBl (dBin g fa fb)) :=
  ⟨pt_cmpR ho ha.pe hb.pe hm, fun _ _ _ _ _ _ rs q => tOp_okT hr ha hb rs q⟩
/-- a subscript -/
theorem ve_ix {r : R2} {g : D → D → Option D} (ho : IxR X r) (hr : R2Ok X.K r g) (ha : VP X W a ta fa) (hb : VP X W b tb fb) (hs : PlainIx b := by exact fun _ _ => rfl) : VE X W (.Subscript a b pos) (tOp r ta tb) (dBin g fa fb) :=
  ⟨pe_ix ho ha.pe hb.pe hs, fun _ _ _ _ _ _ rs q => tOp_ok hr ha hb rs q⟩

/-! ### operators on one value -/
def R1Ok (K : PySem.W.Frag) (r : V → Hp → VK → Prop) (g : D → Option D) : Prop := ∀ B H x v Q d, Same B H → RepT K B H x v → g x = some d → (∀ z B' H', Up B H B' H' → Rep K B' d z → Q z H') → r v H Q
theorem ve_un {op : UnaryOp} {r : V → Hp → VK → Prop} {g : D → Option D} (ho : UnR X (unaryOp op) r) (hr : R1Ok X.K r g) (ha : VP X W a ta fa) : VE X W (.UnaryOp op a pos) (tUn r ta) (dUn g fa) :=
  ⟨pe_un ho ha.pe, fun Fo B H ρ σ Q rs q => by
    unfold dUn at q
    refine ha.ok Fo B H ρ σ _ rs ?_
    cases h1 : fa ρ with
    | no => rw [h1] at q; exact q
    | er C => rw [h1] at q; exact q
    | ok x =>
      rw [h1, R.bind_ok] at q
      intro v B1 H1 u1 r1
      cases h3 : g x with
      | none => rw [h3] at q; exact q.elim
      | some d =>
        rw [h3] at q
        exact hr B1 H1 x v Q d u1.bh r1 h3 fun z B' H' u' hz => q z B' H' (u1.trans u') hz⟩

/-! ### tests -/
theorem tBl_ok {Fo B H ρ σ} {Q : Bool → Hp → Prop} (ha : VE X W a ta fa) (rs : RS X.K Fo B H ρ σ) (q : TPost W σ B H (dBl fa ρ) Q) : ta σ H fun x H1 => ∃ c, x = .bl c ∧ Q c H1 := by
  unfold dBl at q
  refine ha.ok Fo B H ρ σ _ rs ?_
  cases h : fa ρ with
  | no => rw [h] at q; exact q
  | er C => rw [h] at q; exact q
  | ok d =>
    rw [h, R.bind_ok] at q
    intro v B' H' u hv
    cases hv <;> first | exact q.elim | exact ⟨_, rfl, q B' H' u⟩
theorem vt_val (ha : VE X W a ta fa) (he : ∀ whole, isTrue a X.env whole = (do let v ← whole; standAt a.pos; holding [v] (truthy v)) := by intro _; rfl) : VT X W a (tB ta) (dBl fa) :=
  ⟨pt_val ha.pe he, fun _ _ _ _ _ _ rs q => tBl_ok ha rs q⟩
def oTru : D → Option Bool
  | .non => some false
  | .bl b => some b
  | .int i => some (i != 0)
  | .str s => if s.length ≤ sizeLine then some ((s.length : Int) != 0) else none
  | .lst xs => some (!xs.isEmpty)
  | .ro xs => some (!xs.isEmpty)
  | .tup xs => some (!xs.isEmpty)
  | .ct xs => some (!xs.isEmpty)
  | _ => none
def dTru (f : En → R D) : En → R Bool := fun ρ => (f ρ).bind fun x => ofO (oTru x)
theorem emp_len {xs : List D} {vs : List V} {K : PySem.W.Frag} {B : Hp} (h : RepL K B xs vs) : (!xs.isEmpty) = !vs.isEmpty := by
  cases h <;> rfl
theorem vt_truth (ha : VP X W a ta fa) (he : ∀ whole, isTrue a X.env whole = (do let v ← whole; standAt a.pos; holding [v] (truthy v)) := by intro _; rfl) :
    VT X W a (fun σ H Q => ta σ H fun x H' => ∃ k, TruV X.K x H' k ∧ Q k H') (dTru fa) :=
  ⟨pt_truth ha.pe he, fun Fo B H ρ σ Q rs q => by
    unfold dTru at q
    refine ha.ok Fo B H ρ σ _ rs ?_
    cases h : fa ρ with
    | no => rw [h] at q; exact q
    | er C => rw [h] at q; exact q
    | ok d =>
      rw [h, R.bind_ok] at q
      intro v B' H' u hv
      rcases hv with hv | ⟨xs, p, vs, rfl, rfl, h2, h3⟩
      · cases hv with
        | non => exact ⟨_, rfl, q B' H' u⟩
        | bl b => exact ⟨_, rfl, q B' H' u⟩
        | int i => exact ⟨_, rfl, q B' H' u⟩
        | str s =>
          unfold oTru at q
          by_cases hl : s.length ≤ sizeLine
          · simp only [if_pos hl] at q
            exact ⟨_, ⟨hl, rfl⟩, q B' H' u⟩
          · simp only [if_neg hl] at q
            exact q.elim
        | ref a => exact q.elim
        | ty n => exact q.elim
        | lst h1 r1 => exact ⟨_, .inl ⟨_, SqL.of (u.bh _ _ h1), emp_len r1⟩, q B' H' u⟩
        | tup h1 r1 => exact ⟨_, .inr (.inl ⟨_, SqT.of (u.bh _ _ h1), emp_len r1⟩), q B' H' u⟩
        | ro h1 r1 => exact ⟨_, .inl ⟨_, u.bh.seq h1, emp_len r1⟩, q B' H' u⟩
        | ct h1 r1 =>
          refine ⟨_, .inr (.inl ⟨_, ?_, emp_len r1⟩), q B' H' u⟩
          rcases h1 with (h | ⟨o, h⟩) | h
          · exact .inl (.inl (u.bh _ _ h))
          · exact .inl (.inr ⟨o, u.bh _ _ h⟩)
          · exact .inr h
        | obj h1 r1 => exact q.elim
      · exact ⟨_, .inl ⟨_, SqL.of h2, emp_len h3⟩, q B' H' u⟩⟩
variable {g1 g2 : En → R Bool} {rest : List Expr}
theorem vw_and1 (ha : VT X W a tt g1) : VW X W (.BoolOp .And [a] pos) tt g1 := ⟨pw_and1 ha.pe, ha.ok⟩
theorem vw_or1 (ha : VT X W a tt g1) : VW X W (.BoolOp .Or [a] pos) tt g1 := ⟨pw_or1 ha.pe, ha.ok⟩
theorem tAnd_ok {Fo B H ρ σ} {Q : Bool → Hp → Prop} (h1 : ∀ Fo B H ρ σ Q, RS X.K Fo B H ρ σ → TPost W σ B H (g1 ρ) Q → tt σ H Q) (h2 : ∀ Fo B H ρ σ Q, RS X.K Fo B H ρ σ → TPost W σ B H (g2 ρ) Q → uu σ H Q)
    (rs : RS X.K Fo B H ρ σ) (q : TPost W σ B H (dAnd g1 g2 ρ) Q) : tAnd tt uu σ H Q := by
  unfold dAnd at q
  refine h1 Fo B H ρ σ _ rs ?_
  cases h : g1 ρ with
  | no => rw [h] at q; exact q
  | er C => rw [h] at q; exact q
  | ok b =>
    rw [h, R.bind_ok] at q
    intro B' H' u
    cases b with
    | true => exact iteT (h2 Fo B' H' ρ σ Q (rs.up u) (TPost.next u q))
    | false => exact iteF (q B' H' u)
theorem tOr_ok {Fo B H ρ σ} {Q : Bool → Hp → Prop} (h1 : ∀ Fo B H ρ σ Q, RS X.K Fo B H ρ σ → TPost W σ B H (g1 ρ) Q → tt σ H Q) (h2 : ∀ Fo B H ρ σ Q, RS X.K Fo B H ρ σ → TPost W σ B H (g2 ρ) Q → uu σ H Q)
    (rs : RS X.K Fo B H ρ σ) (q : TPost W σ B H (dOr g1 g2 ρ) Q) : tOr tt uu σ H Q := by
  unfold dOr at q
  refine h1 Fo B H ρ σ _ rs ?_
  cases h : g1 ρ with
  | no => rw [h] at q; exact q
  | er C => rw [h] at q; exact q
  | ok b =>
    rw [h, R.bind_ok] at q
    intro B' H' u
    cases b with
    | true => exact iteT (q B' H' u)
    | false => exact iteF (h2 Fo B' H' ρ σ Q (rs.up u) (TPost.next u q))
theorem vw_and (ha : VT X W a tt g1) (hb : VW X W (.BoolOp .And (b :: rest) pos) uu g2) : VW X W (.BoolOp .And (a :: b :: rest) pos) (tAnd tt uu) (dAnd g1 g2) := ⟨pw_and ha.pe hb.pe, fun _ _ _ _ _ _ rs q => tAnd_ok ha.ok hb.ok rs q⟩
theorem vw_or (ha : VT X W a tt g1) (hb : VW X W (.BoolOp .Or (b :: rest) pos) uu g2) : VW X W (.BoolOp .Or (a :: b :: rest) pos) (tOr tt uu) (dOr g1 g2) := ⟨pw_or ha.pe hb.pe, fun _ _ _ _ _ _ rs q => tOr_ok ha.ok hb.ok rs q⟩
theorem vt_not (ha : VT X W a tt g1) : VT X W (.UnaryOp .Not a pos) (tNot tt) (dNot g1) := ⟨pt_not ha.pe, fun Fo B H ρ σ Q rs q => by
  unfold dNot at q
  refine ha.ok Fo B H ρ σ _ rs ?_
  cases h : g1 ρ with
  | no => rw [h] at q; exact q
  | er C => rw [h] at q; exact q
  | ok b =>
    rw [h, R.bind_ok] at q
    exact fun B' H' u => q B' H' u⟩
/-! ### and, or, not as values -/
theorem ve_one {op} (ha : VE X W a ta fa) : VE X W (.BoolOp op [a] pos) ta fa := ⟨pe_one ha.pe, ha.ok⟩
theorem ve_and (ha : VE X W a ta fa) (hb : VE X W (.BoolOp .And (b :: rest) pos) tb fb) : VE X W (.BoolOp .And (a :: b :: rest) pos) (tAndV ta tb) (dAndV (dBl fa) fb) := ⟨pe_and ha.pe hb.pe, fun Fo B H ρ σ Q rs q => by
  unfold dAndV at q
  refine tBl_ok ha rs (Q := fun c H1 => if c = true then tb σ H1 Q else Q (.bl false) H1) ?_
  cases h : dBl fa ρ with
  | no => rw [h] at q; exact q
  | er C => rw [h] at q; exact q
  | ok b =>
    rw [h, R.bind_ok] at q
    intro B' H' u
    cases b with
    | true => exact iteT (hb.ok Fo B' H' ρ σ Q (rs.up u) (EPost.next u q))
    | false => exact iteF (q _ B' H' u (.bl false))⟩
theorem ve_or (ha : VE X W a ta fa) (hb : VE X W (.BoolOp .Or (b :: rest) pos) tb fb) : VE X W (.BoolOp .Or (a :: b :: rest) pos) (tOrV ta tb) (dOrV (dBl fa) fb) := ⟨pe_or ha.pe hb.pe, fun Fo B H ρ σ Q rs q => by
  unfold dOrV at q
  refine tBl_ok ha rs (Q := fun c H1 => if c = true then Q (.bl true) H1 else tb σ H1 Q) ?_
  cases h : dBl fa ρ with
  | no => rw [h] at q; exact q
  | er C => rw [h] at q; exact q
  | ok b =>
    rw [h, R.bind_ok] at q
    intro B' H' u
    cases b with
    | true => exact iteT (q _ B' H' u (.bl true))
    | false => exact iteF (hb.ok Fo B' H' ρ σ Q (rs.up u) (EPost.next u q))⟩
theorem ve_not (ha : VE X W a ta fa) : VE X W (.UnaryOp .Not a pos) (tNotV ta) (dOfB (dNot (dBl fa))) := ⟨pe_not ha.pe, fun Fo B H ρ σ Q rs q => by
  unfold dOfB dNot at q
  refine tBl_ok ha rs (Q := fun c H1 => Q (.bl (!c)) H1) ?_
  cases h : dBl fa ρ with
  | no => rw [h] at q; exact q
  | er C => rw [h] at q; exact q
  | ok b =>
    rw [h, R.bind_ok] at q
    exact fun B' H' u => q _ B' H' u (.bl _)⟩
/-! ### a if t else b -/
theorem ve_if (hc : VT X W c tt g1) (ha : VE X W a ta fa) (hb : VE X W b tb fb) : VE X W (.IfExp c a b pos) (tIf tt ta tb) (dIf g1 fa fb) := ⟨pe_ifExp hc.pe ha.pe hb.pe, fun Fo B H ρ σ Q rs q => by
  unfold dIf at q
  refine hc.ok Fo B H ρ σ _ rs ?_
  cases h : g1 ρ with
  | no => rw [h] at q; exact q
  | er C => rw [h] at q; exact q
  | ok b =>
    rw [h, R.bind_ok] at q
    intro B' H' u
    cases b with
    | true => exact iteT (ha.ok Fo B' H' ρ σ Q (rs.up u) (EPost.next u q))
    | false => exact iteF (hb.ok Fo B' H' ρ σ Q (rs.up u) (EPost.next u q))⟩
theorem vp_if (hc : VT X W c tt g1) (ha : VP X W a ta fa) (hb : VP X W b tb fb) : VP X W (.IfExp c a b pos) (tIf tt ta tb) (dIf g1 fa fb) := ⟨pe_ifExp hc.pe ha.pe hb.pe, fun Fo B H ρ σ Q rs q => by
  unfold dIf at q
  refine hc.ok Fo B H ρ σ _ rs ?_
  cases h : g1 ρ with
  | no => rw [h] at q; exact q
  | er C => rw [h] at q; exact q
  | ok b =>
    rw [h, R.bind_ok] at q
    intro B' H' u
    cases b with
    | true => exact iteT (ha.ok Fo B' H' ρ σ Q (rs.up u) (PPost.next u q))
    | false => exact iteF (hb.ok Fo B' H' ρ σ Q (rs.up u) (PPost.next u q))⟩
/-! ### argument lists -/
variable {h1 h2 : En → R (List D)}
theorem va_nil : VA X W [] tNil dNil := ⟨pa_nil, fun _ B H _ _ _ rs q => q [] B H rs.same .nil⟩
theorem va_cons (ha : VE X W e t f) (hr : VA X W es tr h1) (hs : starEach (e :: es) X.env = (false, eval e X.env) :: starEach es X.env := by rfl) : VA X W (e :: es) (tCons t tr) (dCons f h1) := ⟨pa_cons ha.pe hr.pe hs, fun Fo B H ρ σ Q rs q => by
  unfold dCons at q
  refine ha.ok Fo B H ρ σ _ rs ?_
  cases h : f ρ with
  | no => rw [h] at q; exact q
  | er C => rw [h] at q; exact q
  | ok x =>
    rw [h, R.bind_ok] at q
    intro v B1 H1 u1 r1
    refine hr.ok Fo B1 H1 ρ σ _ (rs.up u1) ?_
    cases h2 : h1 ρ with
    | no => rw [h2] at q; exact q
    | er C =>
      rw [h2] at q
      exact fun B' H' u => q B' H' (u1.trans u)
    | ok xs =>
      rw [h2, R.bind_ok] at q
      exact fun vs B' H' u r2 => q _ B' H' (u1.trans u) (.cons (r1.up u.b) r2)⟩
theorem vap_nil : VAP X W [] tNil dNil := ⟨pa_nil, fun _ B H _ _ _ rs q => q [] B H rs.same .nil⟩
theorem repTL_up {K : PySem.W.Frag} {B H B' H' : Hp} (u : Up B H B' H') : ∀ {ds : List D} {vs : List V}, RepTL K B H ds vs → RepTL K B' H' ds vs
  | _, _, .nil => .nil
  | _, _, .cons a b => .cons (a.up u) (repTL_up u b)
theorem vap_cons (ha : VP X W e t f) (hr : VAP X W es tr h1) (hs : starEach (e :: es) X.env = (false, eval e X.env) :: starEach es X.env := by rfl) : VAP X W (e :: es) (tCons t tr) (dCons f h1) := ⟨pa_cons ha.pe hr.pe hs, fun Fo B H ρ σ Q rs q => by
  unfold dCons at q
  refine ha.ok Fo B H ρ σ _ rs ?_
  cases h : f ρ with
  | no => rw [h] at q; exact q
  | er C => rw [h] at q; exact q
  | ok x =>
    rw [h, R.bind_ok] at q
    intro v B1 H1 u1 r1
    refine hr.ok Fo B1 H1 ρ σ _ (rs.up u1) ?_
    cases h2 : h1 ρ with
    | no => rw [h2] at q; exact q
    | er C =>
      rw [h2] at q
      exact fun B' H' u => q B' H' (u1.trans u)
    | ok xs =>
      rw [h2, R.bind_ok] at q
      exact fun vs B' H' u r2 => q _ B' H' (u1.trans u) (.cons (r1.up u) r2)⟩
/-! ### displays -/
def dTup (h : En → R (List D)) : En → R D := fun ρ => (h ρ).bind fun xs => if xs.length ≤ sizeLine then .ok (.tup xs) else .no
def dLst (h : En → R (List D)) : En → R (List D) := fun ρ => (h ρ).bind fun xs => if xs.length ≤ sizeLine then .ok xs else .no
theorem ve_tup {x1} (ha : VA X W es tA h1) : VE X W (.Tuple es x1 pos) (tTup tA) (dTup h1) := ⟨pe_tup ha.pe, fun Fo B H ρ σ Q rs q => by
  unfold dTup at q
  refine ha.ok Fo B H ρ σ _ rs ?_
  cases h : h1 ρ with
  | no => rw [h] at q; exact q
  | er C => rw [h] at q; exact q
  | ok xs =>
    rw [h, R.bind_ok] at q
    intro vs B' H' u r
    by_cases hl : xs.length ≤ sizeLine
    · rw [if_pos hl] at q
      refine ⟨by rw [← r.length]; exact hl, fun p hp => ?_⟩
      refine q (.ref p) _ _ (u.trans (Up.new u.bh hp)) (.tup upd_same (r.up (Up.new (o := .tup vs) u.bh hp).b))
    · rw [if_neg hl] at q
      exact q.elim⟩
theorem vn_lst (ha : VA X W es tA h1) : VN X W (.List es pos) (tLst tA) (dLst h1) := ⟨pe_lst ha.pe, fun Fo B H ρ σ Q rs q => by
  unfold dLst at q
  refine ha.ok Fo B H ρ σ _ rs ?_
  cases h : h1 ρ with
  | no => rw [h] at q; exact q
  | er C => rw [h] at q; exact q
  | ok xs =>
    rw [h, R.bind_ok] at q
    intro vs B' H' u r
    by_cases hl : xs.length ≤ sizeLine
    · rw [if_pos hl] at q
      refine ⟨by rw [← r.length]; exact hl, fun p hp => ?_⟩
      exact q p vs B' _ (u.trans (Up.apart u.bh hp)) (u.bh.free hp) (u.h.free hp) upd_same r
    · rw [if_neg hl] at q
      exact q.elim⟩
/-! ### built-ins called -/
def CBOk (K : PySem.W.Frag) (r : List V → Hp → VK → Prop) (g : List D → Option D) : Prop := ∀ B H xs vs Q d, Same B H → RepTL K B H xs vs → g xs = some d → (∀ z B' H', Up B H B' H' → Rep K B' d z → Q z H') → r vs H Q
def CBN (K : PySem.W.Frag) (r : List V → Hp → VK → Prop) (g : List D → Option (List D)) : Prop := ∀ B H xs vs Q d, Same B H → RepTL K B H xs vs → g xs = some d →
  (∀ p us B' H', Up B H B' H' → B' p = none → H p = none → H' p = some (.lst us) → RepL K B' d us → Q (.ref p) H') → r vs H Q
theorem tCB_ok {r : List V → Hp → VK → Prop} {g : List D → Option D} (hr : CBOk X.K r g) (ha : VAP X W es tA h1) {Fo B H ρ σ Q} (rs : RS X.K Fo B H ρ σ) (q : EPost X.K W σ B H (dCB g h1 ρ) Q) : tCB r tA σ H Q := by
  unfold dCB at q
  refine ha.ok Fo B H ρ σ _ rs ?_
  cases h : h1 ρ with
  | no => rw [h] at q; exact q
  | er C => rw [h] at q; exact q
  | ok xs =>
    rw [h, R.bind_ok] at q
    intro vs B' H' u r
    cases h3 : g xs with
    | none => rw [h3] at q; exact q.elim
    | some d =>
      rw [h3] at q
      exact hr B' H' xs vs Q d u.bh r h3 fun z B2 H2 u' hz => q z B2 H2 (u.trans u') hz
theorem tCB_okN {r : List V → Hp → VK → Prop} {g : List D → Option (List D)} (hr : CBN X.K r g) (ha : VAP X W es tA h1) {Fo B H ρ σ Q} (rs : RS X.K Fo B H ρ σ) (q : NPost X.K W σ B H (dCBN g h1 ρ) Q) : tCB r tA σ H Q := by
  unfold dCBN at q
  refine ha.ok Fo B H ρ σ _ rs ?_
  cases h : h1 ρ with
  | no => rw [h] at q; exact q
  | er C => rw [h] at q; exact q
  | ok xs =>
    rw [h, R.bind_ok] at q
    intro vs B' H' u r
    cases h3 : g xs with
    | none => rw [h3] at q; exact q.elim
    | some d =>
      rw [h3] at q
      exact hr B' H' xs vs Q d u.bh r h3 fun p us B2 H2 u' n1 n2 h4 hz => q p us B2 H2 (u.trans u') n1 (u.h.free n2) h4 hz
variable {x : Str} {p : Pos} {id T : String} {r : List V → Hp → VK → Prop}
theorem ve_callB {g : List D → Option D} (hc : CallR X (.builtin id) r) (hr : CBOk X.K r g) (hm : X.mg x = none) (hv : bootBuiltins x = some (.builtin id)) (ha : VAP X W (e :: es) tA h1) (hg : Gl X x := by rfl) (hn : x ≠ "__name__" := by decide) (hdb : (x == ("__debug__" : Str)) = false := by decide)
    (he : starEach (e :: es) X.env = (false, eval e X.env) :: starEach es X.env := by rfl) (hpl : (backTo pos (starEach es X.env)).any (·.1) = false := by rfl) : VE X W (.Call (.Name x p) (e :: es) [] pos) (tCB r tA) (dCB g h1) :=
  ⟨pe_callB hc hg hm hv ha.pe hn hdb he hpl, fun _ _ _ _ _ _ rs q => tCB_ok hr ha rs q⟩
theorem ve_callTy {g : List D → Option D} (hc : CallR X (.type T) r) (hr : CBOk X.K r g) (hm : X.mg x = none) (hv : bootBuiltins x = some (.type T)) (ha : VAP X W (e :: es) tA h1) (hg : Gl X x := by rfl) (hn : x ≠ "__name__" := by decide) (hdb : (x == ("__debug__" : Str)) = false := by decide)
    (he : starEach (e :: es) X.env = (false, eval e X.env) :: starEach es X.env := by rfl) (hpl : (backTo pos (starEach es X.env)).any (·.1) = false := by rfl) : VE X W (.Call (.Name x p) (e :: es) [] pos) (tCB r tA) (dCB g h1) :=
  ⟨pe_callTy hc hg hm hv ha.pe hn hdb he hpl, fun _ _ _ _ _ _ rs q => tCB_ok hr ha rs q⟩
theorem vn_callTy {g : List D → Option (List D)} (hc : CallR X (.type T) r) (hr : CBN X.K r g) (hm : X.mg x = none) (hv : bootBuiltins x = some (.type T)) (ha : VAP X W (e :: es) tA h1) (hg : Gl X x := by rfl) (hn : x ≠ "__name__" := by decide) (hdb : (x == ("__debug__" : Str)) = false := by decide)
    (he : starEach (e :: es) X.env = (false, eval e X.env) :: starEach es X.env := by rfl) (hpl : (backTo pos (starEach es X.env)).any (·.1) = false := by rfl) : VN X W (.Call (.Name x p) (e :: es) [] pos) (tCB r tA) (dCBN g h1) :=
  ⟨pe_callTy hc hg hm hv ha.pe hn hdb he hpl, fun _ _ _ _ _ _ rs q => tCB_okN hr ha rs q⟩

/-! ### defs -/
def RPost (K : PySem.W.Frag) (B H : Hp) (r : R D) (Q : VK) (E : XK) : Prop := match r with
  | .ok d => ∀ v B' H', Up B H B' H' → Rep K B' d v → Q v H'
  | .er C => ∀ B' H', Up B H B' H' → E (.ref C) none H'
  | .no => False
def RPostN (K : PySem.W.Frag) (B H : Hp) (r : R (List D)) (Q : VK) (E : XK) : Prop := match r with
  | .ok ds => ∀ p vs B' H', Up B H B' H' → B' p = none → H p = none → H' p = some (.lst vs) → RepL K B' ds vs → Q (.ref p) H'
  | .er C => ∀ B' H', Up B H B' H' → E (.ref C) none H'
  | .no => False
/-- a def that gives a value | a list of its own making -/
def spV (K : PySem.W.Frag) (n : Nat) (g : List D → R D) : Sp := fun vs H Q E => ∃ B ds, Same B H ∧ RepL K B ds vs ∧ ds.length = n ∧ RPost K B H (g ds) Q E
def spN (K : PySem.W.Frag) (n : Nat) (g : List D → R (List D)) : Sp := fun vs H Q E => ∃ B ds, Same B H ∧ RepL K B ds vs ∧ ds.length = n ∧ RPostN K B H (g ds) Q E
/-- a def of the text, called by its name -/
structure DefAt (P : Program) (w : World) (K : PySem.W.Frag) (mg : Str → Option Value) (base : Heap) (x : Str) (k n : Nat) (sp : Sp) : Prop where
  ex : ∃ fa fd ps, FnOk P w K mg base (L2.CX P w) k fa fd ps sp ∧ mg x = some (.ref fa) ∧ PySem.W.keepIn K (.ref fa) = true ∧ Binds K fd ps [] ∧ ps.length = n
variable {k n : Nat}
theorem tCallS_ok {g : List D → R D} (ha : VA X W es tA h1) (hl : ∀ ρ ds, h1 ρ = .ok ds → ds.length = n) {Fo B H ρ σ Q} (rs : RS X.K Fo B H ρ σ) (q : EPost X.K W σ B H (dCall g h1 ρ) Q) : tCallS (spV X.K n g) (WE W) tA σ H Q := by
  unfold dCall at q
  refine ha.ok Fo B H ρ σ _ rs ?_
  cases h : h1 ρ with
  | no => rw [h] at q; exact q
  | er C => rw [h] at q; exact q
  | ok xs =>
    rw [h, R.bind_ok] at q
    intro vs B' H' u r
    refine ⟨B', xs, u.bh, r, hl ρ xs h, ?_⟩
    cases h2 : g xs with
    | no => rw [h2] at q; exact q
    | er C => rw [h2] at q; exact fun B2 H2 u2 => q B2 H2 (u.trans u2)
    | ok d => rw [h2] at q; exact fun v B2 H2 u2 hv => q v B2 H2 (u.trans u2) hv
theorem tCallS_okN {g : List D → R (List D)} (ha : VA X W es tA h1) (hl : ∀ ρ ds, h1 ρ = .ok ds → ds.length = n) {Fo B H ρ σ Q} (rs : RS X.K Fo B H ρ σ) (q : NPost X.K W σ B H (dCall g h1 ρ) Q) : tCallS (spN X.K n g) (WE W) tA σ H Q := by
  unfold dCall at q
  refine ha.ok Fo B H ρ σ _ rs ?_
  cases h : h1 ρ with
  | no => rw [h] at q; exact q
  | er C => rw [h] at q; exact q
  | ok xs =>
    rw [h, R.bind_ok] at q
    intro vs B' H' u r
    refine ⟨B', xs, u.bh, r, hl ρ xs h, ?_⟩
    cases h2 : g xs with
    | no => rw [h2] at q; exact q
    | er C => rw [h2] at q; exact fun B2 H2 u2 => q B2 H2 (u.trans u2)
    | ok d => rw [h2] at q; exact fun p vs B2 H2 u2 n1 n2 h4 hv => q p vs B2 H2 (u.trans u2) n1 (u.h.free n2) h4 hv
theorem len_nil : ∀ ρ ds, dNil ρ = .ok ds → ds.length = 0 := fun ρ ds h => by
  cases h
  rfl
theorem len_cons {f : En → R D} {h : En → R (List D)} {n : Nat} (hl : ∀ ρ ds, h ρ = .ok ds → ds.length = n) : ∀ ρ ds, dCons f h ρ = .ok ds → ds.length = n + 1 := fun ρ ds q => by
  unfold dCons at q
  cases h1 : f ρ with
  | no => rw [h1] at q; cases q
  | er C => rw [h1] at q; cases q
  | ok x =>
    rw [h1, R.bind_ok] at q
    cases h2 : h ρ with
    | no => rw [h2] at q; cases q
    | er C => rw [h2] at q; cases q
    | ok xs =>
      rw [h2, R.bind_ok] at q
      cases q
      rw [List.length_cons, hl ρ xs h2]
theorem ve_call {g : List D → R D} (F : DefAt X.prog X.w X.K X.mg X.base x k n (spV X.K n g)) (hr : Room k X.A) (tk : Takes X W) (ha : VA X W (e :: es) tA h1) (hl : ∀ ρ ds, h1 ρ = .ok ds → ds.length = n := by repeat (first | exact len_nil | refine len_cons ?_)) (hg : Gl X x := by rfl)
    (hdb : (x == ("__debug__" : Str)) = false := by decide) (he : starEach (e :: es) X.env = (false, eval e X.env) :: starEach es X.env := by rfl) (hpl : (backTo pos (starEach es X.env)).any (·.1) = false := by rfl) :
    VE X W (.Call (.Name x p) (e :: es) [] pos) (tCallS (spV X.K n g) (WE W) tA) (dCall g h1) := ⟨by
      obtain ⟨fa, fd, ps, F, hm, hk, hb, _⟩ := F.ex
      exact pe_callS F hr hg hm hk hb (fun σ => passAt tk σ) ha.pe hdb he hpl, fun _ _ _ _ _ _ rs q => tCallS_ok ha hl rs q⟩
theorem vn_call {g : List D → R (List D)} (F : DefAt X.prog X.w X.K X.mg X.base x k n (spN X.K n g)) (hr : Room k X.A) (tk : Takes X W) (ha : VA X W (e :: es) tA h1) (hl : ∀ ρ ds, h1 ρ = .ok ds → ds.length = n := by repeat (first | exact len_nil | refine len_cons ?_)) (hg : Gl X x := by rfl)
    (hdb : (x == ("__debug__" : Str)) = false := by decide) (he : starEach (e :: es) X.env = (false, eval e X.env) :: starEach es X.env := by rfl) (hpl : (backTo pos (starEach es X.env)).any (·.1) = false := by rfl) :
    VN X W (.Call (.Name x p) (e :: es) [] pos) (tCallS (spN X.K n g) (WE W) tA) (dCall g h1) := ⟨by
      obtain ⟨fa, fd, ps, F, hm, hk, hb, _⟩ := F.ex
      exact pe_callS F hr hg hm hk hb (fun σ => passAt tk σ) ha.pe hdb he hpl, fun _ _ _ _ _ _ rs q => tCallS_okN ha hl rs q⟩
theorem pe_callS0 {ps : List Str} {sp : Sp} {E : L2.St → XK} {fa : Addr} {fd : FuncData} (F : FnOk X.prog X.w X.K X.mg X.base (L2.CX X.prog X.w) k fa fd ps sp) (hr : Room k X.A) (hg : Gl X x) (hm : X.mg x = some (.ref fa)) (hk : PySem.W.keepIn X.K (.ref fa) = true) (hb : Binds X.K fd ps []) (hx : ∀ σ, PassesAt (L2.CX X.prog X.w) X σ (E σ))
    (hdb : (x == ("__debug__" : Str)) = false := by decide) : PE X (.Call (.Name x p) [] [] pos) (tCallS sp E tNil) := by
  refine ⟨fun pins s σ H Q I h => ?_⟩
  refine wpAny_Call_Name_kw (ld_glob I hg hm ?_ hdb)
  exact PySem.W.callWith_K0 I.kIn hk (run_fnS (us := []) F hr hb (hx σ) I .nil h)
theorem ve_call0 {g : List D → R D} (F : DefAt X.prog X.w X.K X.mg X.base x k 0 (spV X.K 0 g)) (hr : Room k X.A) (tk : Takes X W) (hg : Gl X x := by rfl) (hdb : (x == ("__debug__" : Str)) = false := by decide) :
    VE X W (.Call (.Name x p) [] [] pos) (tCallS (spV X.K 0 g) (WE W) tNil) (dCall g dNil) := ⟨by
      obtain ⟨fa, fd, ps, F, hm, hk, hb, _⟩ := F.ex
      exact pe_callS0 F hr hg hm hk hb (fun σ => passAt tk σ) hdb, fun _ _ _ _ _ _ rs q => tCallS_ok va_nil len_nil rs q⟩
theorem vn_call0 {g : List D → R (List D)} (F : DefAt X.prog X.w X.K X.mg X.base x k 0 (spN X.K 0 g)) (hr : Room k X.A) (tk : Takes X W) (hg : Gl X x := by rfl) (hdb : (x == ("__debug__" : Str)) = false := by decide) :
    VN X W (.Call (.Name x p) [] [] pos) (tCallS (spN X.K 0 g) (WE W) tNil) (dCall g dNil) := ⟨by
      obtain ⟨fa, fd, ps, F, hm, hk, hb, _⟩ := F.ex
      exact pe_callS0 F hr hg hm hk hb (fun σ => passAt tk σ) hdb, fun _ _ _ _ _ _ rs q => tCallS_okN va_nil len_nil rs q⟩
end
end VL
set_option maxRecDepth 100000
set_option maxHeartbeats 4000000
namespace VL
open PySem PySem.Spec PyProof.Rows L2

inductive Out where
  | nx (ρ : En) | bk (ρ : En) | ct (ρ : En) | rt (d : D) | rn (ds : List D) | er (C : Addr) (ρ : En) | no

def SPost (K : PySem.W.Frag) (W : WX) (Fo B : Hp) (o : Out) (D : Ends) : Prop := match o with
  | .nx ρ => ∀ B' H' σ', Same B B' → RS K Fo B' H' ρ σ' → D.nx σ' H'
  | .bk ρ => ∀ B' H' σ', Same B B' → RS K Fo B' H' ρ σ' → D.bk σ' H'
  | .ct ρ => ∀ B' H' σ', Same B B' → RS K Fo B' H' ρ σ' → D.ct σ' H'
  | .rt d => ∀ B' H' v, Same B B' → Same B' H' → Same Fo H' → (∀ a, Fo a ≠ none → B' a = none) → Rep K B' d v → D.rt v H'
  | .rn ds => ∀ B' H' p vs, Same B B' → Same B' H' → Same Fo H' → (∀ a, Fo a ≠ none → B' a = none) → B' p = none → Fo p = none → H' p = some (.lst vs) → RepL K B' ds vs → D.rt (.ref p) H'
  | .er C ρ => ∀ B' H' σ', Same B B' → RS K Fo B' H' ρ σ' → W (.ref C) none σ' H'
  | .no => False
theorem SPost.next {K : PySem.W.Frag} {W : WX} {Fo B B1 : Hp} {o : Out} {D : Ends} (e : Same B B1) (h : SPost K W Fo B o D) : SPost K W Fo B1 o D := by
  cases o with
  | nx ρ => exact fun B' H' σ' s r => h B' H' σ' (e.trans s) r
  | bk ρ => exact fun B' H' σ' s r => h B' H' σ' (e.trans s) r
  | ct ρ => exact fun B' H' σ' s r => h B' H' σ' (e.trans s) r
  | rt d => exact fun B' H' v s => h B' H' v (e.trans s)
  | rn d => exact fun B' H' p vs s => h B' H' p vs (e.trans s)
  | er C ρ => exact fun B' H' σ' s r => h B' H' σ' (e.trans s) r
  | no => exact h

structure VS (X : Cx) (W : WX) (st : Stmt) (t : TS) (g : En → Out) : Prop where
  ps : PS X st t
  ok : ∀ Fo B H ρ σ D, RS X.K Fo B H ρ σ → SPost X.K W Fo B (g ρ) D → t D σ H
structure VSs (X : Cx) (W : WX) (st : List Stmt) (t : TS) (g : En → Out) : Prop where
  ps : PSs X st t
  ok : ∀ Fo B H ρ σ D, RS X.K Fo B H ρ σ → SPost X.K W Fo B (g ρ) D → t D σ H
/-- what stands around a body -/
structure Ctx (X : Cx) (W : WX) : Prop where
  tk : Takes X W
  po : PassesOwn (model X.prog X.w) X.A X.env X.xe
  calm : X.calm = true
  hs : X.stack = X.env :: X.outer
  hf : X.env.frame = some X.env.locals
  nd : X.N.Nodup

/-! ### what statements do to environments -/
def gNext : En → Out := fun ρ => .nx ρ
def gSeq (f g : En → Out) : En → Out := fun ρ => match f ρ with
  | .nx ρ' => g ρ'
  | o => o
/-- a value, then what follows -/
def gLet {α : Type} (f : En → R α) (k : α → En → Out) : En → Out := fun ρ => match f ρ with
  | .ok d => k d ρ
  | .er C => .er C ρ
  | .no => .no
def gSet (i : Nat) (f : En → R D) : En → Out := gLet f fun d ρ => .nx (ρ.set i (.v d))
def gSetN (i : Nat) (f : En → R (List D)) : En → Out := gLet f fun d ρ => .nx (ρ.set i (.o d))
def gRet (f : En → R D) : En → Out := gLet f fun d _ => .rt d
def gRetN (f : En → R (List D)) : En → Out := gLet f fun d _ => .rn d
def gRetO (i : Nat) : En → Out := fun ρ => match ρ[i]? with
  | some (.o ds) => .rn ds
  | _ => .no
def gRet0 : En → Out := fun _ => .rt .non
def gDrop (f : En → R D) : En → Out := gLet f fun _ ρ => .nx ρ
def gIf (c : En → R Bool) (f g : En → Out) : En → Out := gLet c fun b ρ => if b = true then f ρ else g ρ
def gBreak : En → Out := fun ρ => .bk ρ
def gCont : En → Out := fun ρ => .ct ρ
def gFreeze (i : Nat) : En → Out := fun ρ => match ρ[i]? with
  | some (.o ds) => .nx (ρ.set i (.v (.lst ds)))
  | _ => .nx ρ
/-- an own list at i changed by a value -/
def gOwn {α : Type} (i : Nat) (u : List D → α → Option (List D)) (f : En → R α) : En → Out := fun ρ => match ρ[i]? with
  | some (.o ds) => gLet f (fun d ρ => match u ds d with
    | some es => .nx (ρ.set i (.o es))
    | none => .no) ρ
  | _ => .no
def uApp (ds : List D) (d : D) : Option (List D) := if ds.length < sizeLine then some (ds ++ [d]) else none
def uIns (ds : List D) (d : List D) : Option (List D) := match d with
  | [.int i, y] => if ds.length < sizeLine ∧ 0 ≤ i ∧ i < 2 ^ 63 then some (ds.take i.toNat ++ [y] ++ ds.drop i.toNat) else none
  | _ => none
/-- a list is handed: lists -/
def uExt (ds : List D) (d : D) : Option (List D) := match d with
  | .lst es => if ds.length + es.length ≤ sizeLine then some (ds ++ es) else none
  | _ => none
def uSet (ds : List D) (p : D × D) : Option (List D) := match p.2 with
  | .int i => (ixN ds.length i).map fun j => ds.set j p.1
  | _ => none
def dPair (f g : En → R D) : En → R (D × D) := fun ρ => (f ρ).bind fun x => (g ρ).bind fun y => .ok (x, y)

def forD (gf : D → En → Option En) (gb : En → Out) : List D → En → Out
  | [], ρ => .nx ρ
  | d :: ds, ρ => match gf d ρ with
    | none => .no
    | some ρ1 => match gb ρ1 with
      | .nx ρ2 => forD gf gb ds ρ2
      | .ct ρ2 => forD gf gb ds ρ2
      | .bk ρ2 => .nx ρ2
      | .rt d => .rt d
      | .rn d => .rn d
      | .er C ρ2 => .er C ρ2
      | .no => .no
def gFor (fi : En → R (List D)) (gf : D → En → Option En) (gb : En → Out) : En → Out := gLet fi fun ds ρ => forD gf gb ds ρ
def whileD (gt : En → R Bool) (gb : En → Out) : Nat → En → Out
  | 0, _ => .no
  | n + 1, ρ => match gt ρ with
    | .ok true => (match gb ρ with
      | .nx ρ2 => whileD gt gb n ρ2
      | .ct ρ2 => whileD gt gb n ρ2
      | .bk ρ2 => .nx ρ2
      | .rt d => .rt d
      | .rn d => .rn d
      | .er C ρ2 => .er C ρ2
      | .no => .no)
    | .ok false => .nx ρ
    | .er C => .er C ρ
    | .no => .no
def gWhile (n : Nat) (gt : En → R Bool) (gb : En → Out) : En → Out := fun ρ => whileD gt gb n ρ

section
variable {X : Cx} {W : WX} {st : Stmt} {rest : List Stmt} {t u : TS} {g g' : En → Out} {e a b o : Expr} {te ta tb to : TE} {f fa fb : En → R D} {fn : En → R (List D)} {pos : Pos}
theorem vss_nil : VSs X W [] tNext gNext := ⟨pss_nil, fun Fo B H ρ σ D r q => q B H σ (Same.refl _) r⟩
theorem tSeq_ok (h1 : ∀ Fo B H ρ σ D, RS X.K Fo B H ρ σ → SPost X.K W Fo B (g ρ) D → t D σ H) (h2 : ∀ Fo B H ρ σ D, RS X.K Fo B H ρ σ → SPost X.K W Fo B (g' ρ) D → u D σ H) :
    ∀ Fo B H ρ σ D, RS X.K Fo B H ρ σ → SPost X.K W Fo B (gSeq g g' ρ) D → tSeq t u D σ H := fun Fo B H ρ σ D r q => by
  unfold gSeq at q
  refine h1 Fo B H ρ σ _ r ?_
  cases h : g ρ with
  | nx ρ' => rw [h] at q; exact fun B' H' σ' s r' => h2 Fo B' H' ρ' σ' D r' (SPost.next s q)
  | bk ρ' => rw [h] at q; exact q
  | ct ρ' => rw [h] at q; exact q
  | rt d => rw [h] at q; exact q
  | rn d => rw [h] at q; exact q
  | er C ρ' => rw [h] at q; exact q
  | no => rw [h] at q; exact q
theorem vss_cons (h1 : VS X W st t g) (h2 : VSs X W rest u g') : VSs X W (st :: rest) (tSeq t u) (gSeq g g') := ⟨pss_cons h1.ps h2.ps, tSeq_ok h1.ok h2.ok⟩
theorem vss_one (h1 : VS X W st t g) : VSs X W [st] t g := ⟨pss_one h1.ps, h1.ok⟩
/-- from a value to what follows -/
theorem gLet_okE {k : D → En → Out} {Q : VK} {Fo B H ρ σ D} (ha : VE X W e te f) (r : RS X.K Fo B H ρ σ) (q : SPost X.K W Fo B (gLet f k ρ) D)
    (hk : ∀ d v B' H', Same B B' → RS X.K Fo B' H' ρ σ → Rep X.K B' d v → SPost X.K W Fo B' (k d ρ) D → Q v H') : te σ H Q := by
  unfold gLet at q
  refine ha.ok Fo B H ρ σ _ r ?_
  cases h : f ρ with
  | no => rw [h] at q; exact q
  | er C => rw [h] at q; exact fun B' H' u => q B' H' σ u.b (r.up u)
  | ok d => rw [h] at q; exact fun v B' H' u hv => hk d v B' H' u.b (r.up u) hv (SPost.next u.b q)
theorem gLet_okN {k : List D → En → Out} {Q : VK} {Fo B H ρ σ D} (ha : VN X W e te fn) (r : RS X.K Fo B H ρ σ) (q : SPost X.K W Fo B (gLet fn k ρ) D)
    (hk : ∀ d p vs B' H', Same B B' → RS X.K Fo B' H' ρ σ → B' p = none → H p = none → H' p = some (.lst vs) → RepL X.K B' d vs → SPost X.K W Fo B' (k d ρ) D → Q (.ref p) H') : te σ H Q := by
  unfold gLet at q
  refine ha.ok Fo B H ρ σ _ r ?_
  cases h : fn ρ with
  | no => rw [h] at q; exact q
  | er C => rw [h] at q; exact fun B' H' u => q B' H' σ u.b (r.up u)
  | ok d => rw [h] at q; exact fun p vs B' H' u n1 n2 hp hv => hk d p vs B' H' u.b (r.up u) n1 n2 hp hv (SPost.next u.b q)
theorem gLet_okT {k : Bool → En → Out} {tt : TT} {c : Expr} {gc : En → R Bool} {Q : Bool → Hp → Prop} {Fo B H ρ σ D} (ha : VT X W c tt gc) (r : RS X.K Fo B H ρ σ) (q : SPost X.K W Fo B (gLet gc k ρ) D)
    (hk : ∀ b B' H', Same B B' → RS X.K Fo B' H' ρ σ → SPost X.K W Fo B' (k b ρ) D → Q b H') : tt σ H Q := by
  unfold gLet at q
  refine ha.ok Fo B H ρ σ _ r ?_
  cases h : gc ρ with
  | no => rw [h] at q; exact q
  | er C => rw [h] at q; exact fun B' H' u => q B' H' σ u.b (r.up u)
  | ok d => rw [h] at q; exact fun B' H' u => hk d B' H' u.b (r.up u) (SPost.next u.b q)
theorem gLet_okA {k : List D → En → Out} {tA : TA} {es : List Expr} {Q : List V → Hp → Prop} {Fo B H ρ σ D} (ha : VA X W es tA fn) (r : RS X.K Fo B H ρ σ) (q : SPost X.K W Fo B (gLet fn k ρ) D)
    (hk : ∀ d vs B' H', Same B B' → RS X.K Fo B' H' ρ σ → RepL X.K B' d vs → SPost X.K W Fo B' (k d ρ) D → Q vs H') : tA σ H Q := by
  unfold gLet at q
  refine ha.ok Fo B H ρ σ _ r ?_
  cases h : fn ρ with
  | no => rw [h] at q; exact q
  | er C => rw [h] at q; exact fun B' H' u => q B' H' σ u.b (r.up u)
  | ok d => rw [h] at q; exact fun vs B' H' u hv => hk d vs B' H' u.b (r.up u) hv (SPost.next u.b q)

/-! ### names stored -/
theorem vs_set (i : Nat) {x : Str} {pos' : Pos} (hN : X.N.Nodup) (he : VE X W e te f) (hi : X.N[i]? = some x := by rfl) (hx : Loc X.env.scope x := by first | exact .inl rfl | exact .inr rfl) (hs : swapsWith e (some (.Name x pos')) pos.line X.env = pure false := by rfl)
    (hf : X.fn x = true ∨ X.env.scope.names.lookup x = some .local := by first | exact .inl rfl | exact .inr rfl) : VS X W (.Assign [.Name x pos'] e pos) (tAsg te (gName i)) (gSet i f) :=
  ⟨ps_set hN hi hx he.pe hs hf, fun Fo B H ρ σ D r q => gLet_okE he r q fun d v B' H' s r' hv q' => q' B' H' _ (Same.refl _) (r'.setV i hv)⟩
theorem new_own {K : PySem.W.Frag} {Fo B H : Hp} {ρ : En} {σ : L2.St} (r : RS K Fo B H ρ σ) {p : Addr} (h : H p = none) : ∀ (j : Nat) xs, ρ[j]? = some (.o xs) → σ[j]? ≠ some (some (.ref p)) := fun j xs q e => by
  obtain ⟨p', vs, h1, h2, _⟩ := r.owns j xs q
  rw [e] at h1
  cases h1
  rw [h] at h2
  cases h2
theorem vs_setN (i : Nat) {x : Str} {pos' : Pos} (hN : X.N.Nodup) (he : VN X W e te fn) (hi : X.N[i]? = some x := by rfl) (hx : Loc X.env.scope x := by first | exact .inl rfl | exact .inr rfl) (hs : swapsWith e (some (.Name x pos')) pos.line X.env = pure false := by rfl)
    (hf : X.fn x = true ∨ X.env.scope.names.lookup x = some .local := by first | exact .inl rfl | exact .inr rfl) : VS X W (.Assign [.Name x pos'] e pos) (tAsg te (gName i)) (gSetN i fn) :=
  ⟨ps_set hN hi hx he.pe hs hf, fun Fo B H ρ σ D r q => gLet_okN he r q fun d p vs B' H' s r' n1 n2 hp hv q' => q' B' H' _ (Same.refl _) (r'.setO i hp hv n1 (r.fh.free n2) fun j xs _ e1 => new_own r n2 j xs e1)⟩
theorem vs_aug (i : Nat) {x : Str} {op : Operator} {ti : TIp} {gi : D → D → Option D} {pos' : Pos} (hN : X.N.Nodup) (he : VE X W e te f) (ho : PIp X op ti) (hr : R2Ok X.K ti gi) (hi : X.N[i]? = some x := by rfl) (hx : Loc X.env.scope x := by first | exact .inl rfl | exact .inr rfl)
    (hf : X.fn x = true ∨ X.env.scope.names.lookup x = some .local := by first | exact .inl rfl | exact .inr rfl) : VS X W (.AugAssign (.Name x pos') op e pos) (tAug i te ti) (gSet i (dBin gi (dVar i) f)) :=
  ⟨ps_aug hN hi hx he.pe ho hf, fun Fo B H ρ σ D r q => by
    unfold gSet gLet dBin dVar at q
    cases h : ρ[i]? with
    | none => rw [h] at q; exact q.elim
    | some s =>
      rw [h] at q
      cases s with
      | un => exact q.elim
      | o ds => exact q.elim
      | v d0 =>
        obtain ⟨v, h1, h2⟩ := r.vals i d0 h
        refine ⟨v, h1, ?_⟩
        refine he.ok Fo B H ρ σ _ r ?_
        dsimp only [R.bind_ok] at q
        cases h3 : f ρ with
        | no => rw [h3] at q; exact q
        | er C => rw [h3] at q; exact fun B' H' u => q B' H' σ u.b (r.up u)
        | ok d1 =>
          rw [h3, R.bind_ok] at q
          intro w B' H' u' hw
          cases h4 : gi d0 d1 with
          | none => rw [h4] at q; exact q.elim
          | some d =>
            rw [h4] at q
            exact hr B' H' d0 d1 v w _ d u'.bh (.of (h2.up u'.b)) (.of hw) h4 fun z B2 H2 u2 hz => q B2 H2 _ (u'.b.trans u2.b) (((r.up u').up u2).setV i hz)⟩

/-! ### small statements -/
theorem vs_ret (he : VE X W e te f) : VS X W (.Return (some e) pos) (tRet te) (gRet f) :=
  ⟨ps_ret he.pe, fun Fo B H ρ σ D r q => gLet_okE (Q := D.rt) he r q fun d v B' H' s r' hv q' => q' B' H' v (Same.refl _) r'.bh r'.fh r'.fb hv⟩
theorem vs_retN (he : VN X W e te fn) : VS X W (.Return (some e) pos) (tRet te) (gRetN fn) :=
  ⟨ps_ret he.pe, fun Fo B H ρ σ D r q => gLet_okN (Q := D.rt) he r q fun d p vs B' H' s r' n1 n2 hp hv q' => q' B' H' p vs (Same.refl _) r'.bh r'.fh r'.fb n1 (r.fh.free n2) hp hv⟩
theorem vs_retO (i : Nat) {x : Str} {pos' : Pos} (hN : X.N[i]? = some x := by rfl) (hv : Vis X.env.scope x := by first | exact Or.inl rfl | exact Or.inr (Or.inl rfl) | exact Or.inr (Or.inr rfl)) (hd : (x == ("__debug__" : Str)) = false := by decide)
    (hcd : (x == ("__classdict__" : Str)) = false := by decide) : VS X W (.Return (some (.Name x pos')) pos) (tRet (tVar i)) (gRetO i) :=
  ⟨ps_ret (pe_var hN hv hd hcd), fun Fo B H ρ σ D r q => by
    unfold gRetO at q
    cases h : ρ[i]? with
    | none => rw [h] at q; exact q.elim
    | some s =>
      rw [h] at q
      cases s with
      | un => exact q.elim
      | v d => exact q.elim
      | o ds =>
        obtain ⟨p, vs, h1, h2, h3, h4, h5⟩ := r.owns i ds h
        exact ⟨_, h1, q B H p vs (Same.refl _) r.bh r.fh r.fb h4 h5 h2 h3⟩⟩
theorem vs_ret0 : VS X W (.Return none pos) tRetN gRet0 := ⟨ps_retN, fun Fo B H ρ σ D r q => q B H .non (Same.refl _) r.bh r.fh r.fb .non⟩
theorem vs_expr (he : VE X W e te f) (hs : swapsWith e none pos.line X.env = pure false := by rfl) : VS X W (.Expr e pos) (tDrop te) (gDrop f) :=
  ⟨ps_expr he.pe hs, fun Fo B H ρ σ D r q => gLet_okE he r q fun d v B' H' s r' hv q' => q' B' H' σ (Same.refl _) r'⟩
theorem vs_doc {x j pos pos'} : VS X W (.Expr (.Constant (.str x) j pos) pos') tNext gNext := ⟨ps_doc, fun Fo B H ρ σ D r q => q B H σ (Same.refl _) r⟩
theorem vs_pass : VS X W (.Pass pos) tNext gNext := ⟨ps_pass, fun Fo B H ρ σ D r q => q B H σ (Same.refl _) r⟩
theorem vs_break : VS X W (.Break pos) tBreak gBreak := ⟨ps_break, fun Fo B H ρ σ D r q => q B H σ (Same.refl _) r⟩
theorem vs_cont : VS X W (.Continue pos) tCont gCont := ⟨ps_continue, fun Fo B H ρ σ D r q => q B H σ (Same.refl _) r⟩
theorem vs_if {c : Expr} {as bs : List Stmt} {tc : TT} {gc : En → R Bool} (hc : VT X W c tc gc) (ha : VSs X W as t g) (hb : VSs X W bs u g') : VS X W (.If c as bs pos) (tIfS tc t u) (gIf gc g g') :=
  ⟨ps_if hc.pe ha.ps hb.ps, fun Fo B H ρ σ D r q => gLet_okT hc r q fun b B' H' s r' q' => by
    cases b with
    | true => exact iteT (ha.ok Fo B' H' ρ σ D r' q')
    | false => exact iteF (hb.ok Fo B' H' ρ σ D r' q')⟩
/-- an own list is shared from here on -/
theorem vs_freeze (i : Nat) (h : VSs X W rest t g) : VSs X W rest t (gSeq (gFreeze i) g) := ⟨h.ps, fun Fo B H ρ σ D r q => by
  unfold gSeq gFreeze at q
  cases hi : ρ[i]? with
  | none => rw [hi] at q; exact h.ok Fo B H ρ σ D r q
  | some s =>
    rw [hi] at q
    cases s with
    | un => exact h.ok Fo B H ρ σ D r q
    | v d => exact h.ok Fo B H ρ σ D r q
    | o ds =>
      obtain ⟨B', sb, r'⟩ := r.freeze hi
      exact h.ok Fo B' H _ σ D r' (SPost.next sb q)⟩

/-! ### an own list changed -/
theorem gOwn_ok {α : Type} {i : Nat} {u : List D → α → Option (List D)} {fu : En → R α} {t : TS} {Fo B H ρ σ D} (r : RS X.K Fo B H ρ σ) (q : SPost X.K W Fo B (gOwn i u fu ρ) D)
    (h : ∀ ds p vs, ρ[i]? = some (.o ds) → σ[i]? = some (some (.ref p)) → H p = some (.lst vs) → RepL X.K B ds vs → SPost X.K W Fo B (gLet fu (fun d ρ => match u ds d with
      | some es => .nx (ρ.set i (.o es))
      | none => .no) ρ) D → t D σ H) : t D σ H := by
  unfold gOwn at q
  cases hi : ρ[i]? with
  | none => rw [hi] at q; exact q.elim
  | some s =>
    rw [hi] at q
    cases s with
    | un => exact q.elim
    | v d => exact q.elim
    | o ds =>
      obtain ⟨p, vs, h1, h2, h3, h4, h5⟩ := r.owns i ds hi
      exact h ds p vs hi h1 h2 h3 q
/-- behind the arguments: the list as it stands -/
theorem own_again {K : PySem.W.Frag} {Fo B H : Hp} {ρ : En} {σ : L2.St} {i : Nat} {ds : List D} {p : Addr} (r : RS K Fo B H ρ σ) (hi : ρ[i]? = some (.o ds)) (hs : σ[i]? = some (some (.ref p))) : ∃ vs, H p = some (.lst vs) ∧ RepL K B ds vs := by
  obtain ⟨p', vs, h1, h2, h3, _⟩ := r.owns i ds hi
  rw [hs] at h1
  cases h1
  exact ⟨vs, h2, h3⟩
theorem vs_append (i : Nat) {x : Str} {apos cpos xpos : Pos} (he : VE X W e te f) (hN : X.N[i]? = some x := by rfl) (hv : Vis X.env.scope x := by first | exact Or.inl rfl | exact Or.inr (Or.inl rfl) | exact Or.inr (Or.inr rfl)) (hd : (x == ("__debug__" : Str)) = false := by decide)
    (hcd : (x == ("__classdict__" : Str)) = false := by decide) (hs : swapsWith (.Call (.Attribute (.Name x xpos) "append" apos) [e] [] cpos) none pos.line X.env = pure false := by rfl)
    (hbase : attributeBase (.Name x xpos) "append" X.env (eval (.Name x xpos) X.env) = eval (.Name x xpos) X.env := by rfl)
    (hfew : ((backTo cpos (starEach (e :: []) X.env)).all (fun x => !x.1) && (backToKw cpos (keywordEach [] X.env)).all (fun x => x.1.isSome)
      && decide ((e :: []).length + ([] : List Keyword).length + (if ([] : List Keyword).isEmpty then 0 else 1) < 30)) = true := by rfl)
    (hline : (apos.endLine == cpos.line) = true := by rfl) (hst : starEach (e :: []) X.env = (false, eval e X.env) :: starEach [] X.env := by rfl) (hplain : (backTo cpos (starEach [] X.env)).any (·.1) = false := by rfl) :
    VS X W (.Expr (.Call (.Attribute (.Name x xpos) "append" apos) [e] [] cpos) pos) (tDrop (tBM X.K "list" rAppend (tVar i) (tCons te tNil))) (gOwn i uApp f) :=
  ⟨ps_expr (pe_bm PySem.F.plainAttrs_list PySem.F.slot_list_append PySem.F.type_list_append mt_append (pe_var hN hv hd hcd) (pa_cons he.pe pa_nil hst) hbase hfew hline hst hplain) hs, fun Fo B H ρ σ D r q =>
    gOwn_ok (t := tDrop (tBM X.K "list" rAppend (tVar i) (tCons te tNil))) r q fun ds p vs hρ hσ hH hr q => by
      refine ⟨_, hσ, .inl ⟨rfl, _, SqL.of hH⟩, ?_⟩
      refine gLet_okE he r q fun d w B' H' s r' hw q' => ?_
      obtain ⟨vs2, h2, h3⟩ := own_again r' hρ hσ
      unfold uApp at q'
      by_cases hl : ds.length < sizeLine
      · rw [if_pos hl] at q'
        exact ⟨p, vs2, w, rfl, rfl, h2, by rw [← h3.length]; exact hl, q' B' _ σ (Same.refl _) (r'.write hρ hσ (h3.append (.cons hw .nil)))⟩
      · rw [if_neg hl] at q'
        exact q'.elim⟩
theorem vs_insert (i : Nat) {x : Str} {apos cpos xpos : Pos} {e2 : Expr} {tA : TA} (he : VA X W [e, e2] tA fn) (hN : X.N[i]? = some x := by rfl) (hv : Vis X.env.scope x := by first | exact Or.inl rfl | exact Or.inr (Or.inl rfl) | exact Or.inr (Or.inr rfl)) (hd : (x == ("__debug__" : Str)) = false := by decide)
    (hcd : (x == ("__classdict__" : Str)) = false := by decide) (hs : swapsWith (.Call (.Attribute (.Name x xpos) "insert" apos) [e, e2] [] cpos) none pos.line X.env = pure false := by rfl)
    (hbase : attributeBase (.Name x xpos) "insert" X.env (eval (.Name x xpos) X.env) = eval (.Name x xpos) X.env := by rfl)
    (hfew : ((backTo cpos (starEach (e :: [e2]) X.env)).all (fun x => !x.1) && (backToKw cpos (keywordEach [] X.env)).all (fun x => x.1.isSome)
      && decide ((e :: [e2]).length + ([] : List Keyword).length + (if ([] : List Keyword).isEmpty then 0 else 1) < 30)) = true := by rfl)
    (hline : (apos.endLine == cpos.line) = true := by rfl) (hst : starEach (e :: [e2]) X.env = (false, eval e X.env) :: starEach [e2] X.env := by rfl) (hplain : (backTo cpos (starEach [e2] X.env)).any (·.1) = false := by rfl) :
    VS X W (.Expr (.Call (.Attribute (.Name x xpos) "insert" apos) [e, e2] [] cpos) pos) (tDrop (tBM X.K "list" (fun x vs H Q => ∃ (l : Addr) (xs : List V) (i : Int) (y : V), x = .ref l ∧ vs = [.int i, y] ∧ H l = some (.lst xs) ∧ xs.length < sizeLine ∧ 0 ≤ i ∧ i < 2 ^ 63 ∧
      Q .non (upd H l (.lst (xs.take i.toNat ++ [y] ++ xs.drop i.toNat)))) (tVar i) tA)) (gOwn i uIns fn) :=
  ⟨ps_expr (pe_bm PySem.F.plainAttrs_list PySem.F.slot_list_insert PySem.F.type_list_insert mt_insert (pe_var hN hv hd hcd) he.pe hbase hfew hline hst hplain) hs, fun Fo B H ρ σ D r q =>
    gOwn_ok (t := tDrop (tBM X.K "list" _ (tVar i) tA)) r q fun ds p vs hρ hσ hH hr q => by
      refine ⟨_, hσ, .inl ⟨rfl, _, SqL.of hH⟩, ?_⟩
      refine gLet_okA he r q fun d ws B' H' s r' hw q' => ?_
      obtain ⟨vs2, h2, h3⟩ := own_again r' hρ hσ
      cases hw with
      | nil => exact q'.elim
      | cons r1 w1 =>
        cases w1 with
        | nil => cases r1 <;> exact q'.elim
        | cons r2 w2 =>
          cases w2 with
          | cons _ _ => cases r1 <;> exact q'.elim
          | nil =>
            cases r1 with
            | int j =>
              unfold uIns at q'
              dsimp only at q'
              by_cases hl : ds.length < sizeLine ∧ 0 ≤ j ∧ j < 2 ^ 63
              · rw [if_pos hl] at q'
                exact ⟨p, vs2, j, _, rfl, rfl, h2, by rw [← h3.length]; exact hl.1, hl.2.1, hl.2.2, q' B' _ σ (Same.refl _) (r'.write hρ hσ (((h3.take _).append (.cons r2 .nil)).append (h3.drop _)))⟩
              · rw [if_neg hl] at q'
                exact q'.elim
            | _ => exact q'.elim⟩
/-- x[i] = e, x an own list -/
def gSetIx (i : Nat) (fe fi : En → R D) : En → Out := gLet fe fun d ρ => gOwn i (fun ds k => uSet ds (d, k)) fi ρ
theorem vs_setix (i : Nat) {x : Str} {ix : Expr} {ti : TE} {fi : En → R D} {tpos xpos : Pos} (he : VE X W e te f) (hix : VE X W ix ti fi) (hN : X.N[i]? = some x := by rfl) (hv : Vis X.env.scope x := by first | exact Or.inl rfl | exact Or.inr (Or.inl rfl) | exact Or.inr (Or.inr rfl))
    (hd : (x == ("__debug__" : Str)) = false := by decide) (hcd : (x == ("__classdict__" : Str)) = false := by decide)
    (hg : PE X (.Name x xpos) (tVar i) → PE X ix ti → PG X (.Subscript (.Name x xpos) ix tpos) (gSub (tVar i) ti rSetL) := by exact fun h1 h2 => pg_sub h1 h2 set_list)
    (hs : swapsWithSole [.Subscript (.Name x xpos) ix tpos] e pos.line X.env = pure false := by rfl) (hw : swappedStores [.Subscript (.Name x xpos) ix tpos] e X.env = pure none := by rfl)
    (h1 : (assignEach [.Subscript (.Name x xpos) ix tpos] X.env).map (·.2) = [assign (.Subscript (.Name x xpos) ix tpos) X.env] := by rfl) :
    VS X W (.Assign [.Subscript (.Name x xpos) ix tpos] e pos) (tAsg te (gSub (tVar i) ti rSetL)) (gSetIx i f fi) :=
  ⟨ps_asg he.pe (hg (pe_var hN hv hd hcd) hix.pe) hs hw h1, fun Fo B H ρ σ D r q => by
    unfold gSetIx at q
    refine gLet_okE he r q fun d v B1 H1 s1 r1 hv1 q1 => ?_
    refine gOwn_ok (t := fun D σ H => gSub (tVar i) ti rSetL v σ H D.nx) r1 q1 fun ds p vs hρ hσ hH hr q => ?_
    refine ⟨_, hσ, ?_⟩
    refine gLet_okE hix r1 q fun k w B2 H2 s2 r2 hv2 q2 => ?_
    obtain ⟨vs2, a1, a2⟩ := own_again r2 hρ hσ
    unfold uSet at q2
    cases hv2 with
    | int k =>
      dsimp only at q2
      cases h4 : ixN ds.length k with
      | none => rw [h4] at q2; exact q2.elim
      | some j =>
        rw [h4] at q2
        exact ⟨p, vs2, k, j, rfl, rfl, a1, by rw [← a2.length]; exact h4, q2 B2 _ σ (Same.refl _) (r2.write hρ hσ (RepL.set (hv1.up s2) j a2))⟩
    | _ => exact q2.elim⟩
end
end VL
set_option maxRecDepth 100000
set_option maxHeartbeats 4000000
namespace VL
open PySem PySem.Spec PyProof.Rows L2

/-! ### targets -/
theorem wipe_eq {σ σ' : L2.St} (hl : σ'.length = σ.length) : ∀ (vs : List Nat), (∀ j, j ∉ vs → σ'[j]? = σ[j]?) → wipe σ' vs = wipe σ vs := fun vs h => by
  apply List.ext_getElem?
  intro j
  by_cases hj : j ∈ vs
  · have key : ∀ (τ : L2.St) (ws : List Nat), j ∈ ws → (wipe τ ws)[j]? = if j < τ.length then some none else none := by
      intro τ ws
      induction ws with
      | nil => intro h; cases h
      | cons w r ih =>
        intro hm
        show ((wipe τ r).set w none)[j]? = _
        by_cases e : w = j
        · subst e
          rw [List.getElem?_set]
          simp [wipe_length]
        · rw [List.getElem?_set_ne e]
          exact ih ((List.mem_cons.mp hm).resolve_left (Ne.symm e))
    rw [key σ' vs hj, key σ vs hj, hl]
  · have key : ∀ (τ : L2.St) (ws : List Nat), j ∉ ws → (wipe τ ws)[j]? = τ[j]? := by
      intro τ ws
      induction ws with
      | nil => intro _; rfl
      | cons w r ih =>
        intro hm
        show ((wipe τ r).set w none)[j]? = _
        have e : w ≠ j := fun z => hm (by simp [z])
        rw [List.getElem?_set_ne e]
        exact ih fun z => hm (by simp [z])
    rw [key σ' vs hj, key σ vs hj, h j hj]
theorem wipe_idem (σ : L2.St) (vs : List Nat) : wipe (wipe σ vs) vs = wipe σ vs := by
  refine wipe_eq (wipe_length σ vs) vs fun j hj => ?_
  induction vs with
  | nil => rfl
  | cons w r ih =>
    show ((wipe σ r).set w none)[j]? = _
    have e : w ≠ j := fun z => hj (by simp [z])
    rw [List.getElem?_set_ne e]
    exact ih fun z => hj (by simp [z])

structure VG (X : Cx) (tg : Expr) (g : TG) (gf : D → En → Option En) (sl : List Nat) : Prop where
  pg : PG X tg g
  ok : ∀ Fo B H ρ σ d v ρ' (Q : L2.St → Hp → Prop), RS X.K Fo B H ρ σ → Rep X.K B d v → gf d ρ = some ρ' → (∀ σ', RS X.K Fo B H ρ' σ' → σ'.length = σ.length → (∀ j, j ∉ sl → σ'[j]? = σ[j]?) → Q σ' H) → g v σ H Q
structure VGs (X : Cx) (ts : List Expr) (g : TGs) (gf : List D → En → Option En) (sl : List Nat) : Prop where
  pg : PGs X ts g
  ok : ∀ Fo B H ρ σ d v ρ' (Q : L2.St → Hp → Prop), RS X.K Fo B H ρ σ → RepL X.K B d v → gf d ρ = some ρ' → (∀ σ', RS X.K Fo B H ρ' σ' → σ'.length = σ.length → (∀ j, j ∉ sl → σ'[j]? = σ[j]?) → Q σ' H) → g v σ H Q
def fName (i : Nat) : D → En → Option En := fun d ρ => some (ρ.set i (.v d))
def fNil : List D → En → Option En := fun ds ρ => match ds with
  | [] => some ρ
  | _ => none
def fCons (f : D → En → Option En) (h : List D → En → Option En) : List D → En → Option En := fun ds ρ => match ds with
  | d :: r => (f d ρ).bind fun ρ1 => h r ρ1
  | [] => none
/-- a tuple unpacked -/
def fTup (n : Nat) (h : List D → En → Option En) : D → En → Option En := fun d ρ => match d with
  | .tup ds => if ds.length = n then h ds ρ else none
  | .ct ds => if ds.length = n then h ds ρ else none
  | _ => none
/-- a list unpacked -/
def fLst (n : Nat) (h : List D → En → Option En) : D → En → Option En := fun d ρ => match d with
  | .lst ds => if ds.length = n then h ds ρ else none
  | _ => none
section
variable {X : Cx} {W : WX} {tg : Expr} {g : TG} {gs : TGs} {gf : D → En → Option En} {hf : List D → En → Option En} {s1 s2 : List Nat} {pos : Pos}
theorem vg_name (i : Nat) {x : Str} (hN : X.N.Nodup) (hi : X.N[i]? = some x := by rfl) (hx : Loc X.env.scope x := by first | exact .inl rfl | exact .inr rfl) (hf : X.fn x = true ∨ X.env.scope.names.lookup x = some .local := by first | exact .inl rfl | exact .inr rfl) :
    VG X (.Name x pos) (gName i) (fName i) [i] := ⟨pg_name hN hi hx hf, fun Fo B H ρ σ d v ρ' Q r hv e q => by
  cases e
  exact q _ (r.setV i hv) (by simp) fun j hj => List.getElem?_set_ne (fun z => hj (by simp [z]))⟩
theorem vgs_nil : VGs X [] gNil fNil [] := ⟨pgs_nil, fun Fo B H ρ σ d v ρ' Q r hv e q => by
  cases hv with
  | nil => cases e; exact ⟨rfl, q σ r rfl fun _ _ => rfl⟩
  | cons _ _ => cases e⟩
theorem vgs_cons {es : List Expr} (h1 : VG X tg g gf s1) (h2 : VGs X es gs hf s2) (hs : (assignEach (tg :: es) X.env).map (·.2) = assign tg X.env :: (assignEach es X.env).map (·.2) := by rfl) : VGs X (tg :: es) (gCons g gs) (fCons gf hf) (s1 ++ s2) :=
  ⟨pgs_cons h1.pg h2.pg hs, fun Fo B H ρ σ d v ρ' Q r hv e q => by
    cases hv with
    | nil => cases e
    | @cons d0 v0 ds vs hv hr =>
      unfold fCons at e
      dsimp only at e
      cases h : gf d0 ρ with
      | none => rw [h] at e; cases e
      | some ρ1 =>
        rw [h] at e
        refine ⟨v0, vs, rfl, h1.ok Fo B H ρ σ d0 v0 ρ1 _ r hv h fun σ1 r1 l1 o1 => ?_⟩
        refine h2.ok Fo B H ρ1 σ1 ds vs ρ' Q r1 hr e fun σ2 r2 l2 o2 => q σ2 r2 (l2.trans l1) fun j hj => ?_
        rw [List.mem_append] at hj
        exact (o2 j fun z => hj (.inr z)).trans (o1 j fun z => hj (.inl z))⟩
theorem SqT.up {K : PySem.W.Frag} {B H : Hp} {a : Addr} {vs : List V} (s : Same B H) (h : SqT K B a vs) : SqT K H a vs := by
  rcases h with (h | ⟨o, h⟩) | h
  · exact .inl (.inl (s _ _ h))
  · exact .inl (.inr ⟨o, s _ _ h⟩)
  · exact .inr h
theorem vg_tup {es : List Expr} {k n : Nat} (hc : X.calm = true) (h : VGs X es gs hf s1) (hn : (assignEach es X.env).length = n := by rfl) (hst : (assignEach es X.env).findIdx? (·.1) = none := by rfl) :
    VG X (.Tuple es k pos) (gTup X.K n gs) (fTup n hf) s1 := ⟨pg_tup hc h.pg hn hst, fun Fo B H ρ σ d v ρ' Q r hv e q => by
  cases hv with
  | @tup a vs xs hb hr =>
    unfold fTup at e
    dsimp only at e
    split at e
    · rename_i hl
      exact ⟨a, vs, rfl, SqT.of (r.bh _ _ hb), hr.length.symm.trans hl, h.ok Fo B H ρ σ xs vs ρ' Q r hr e q⟩
    · cases e
  | @ct a vs xs hb hr =>
    unfold fTup at e
    dsimp only at e
    split at e
    · rename_i hl
      exact ⟨a, vs, rfl, VL.SqT.up r.bh hb, hr.length.symm.trans hl, h.ok Fo B H ρ σ xs vs ρ' Q r hr e q⟩
    · cases e
  | _ => cases e⟩
theorem vg_lst {es : List Expr} {k n : Nat} (hc : X.calm = true) (h : VGs X es gs hf s1) (hn : (assignEach es X.env).length = n := by rfl) (hst : (assignEach es X.env).findIdx? (·.1) = none := by rfl) :
    VG X (.Tuple es k pos) (gLst X.K n gs) (fLst n hf) s1 := ⟨pg_lst hc h.pg hn hst, fun Fo B H ρ σ d v ρ' Q r hv e q => by
  cases hv with
  | @lst a vs xs hb hr =>
    unfold fLst at e
    dsimp only at e
    split at e
    · rename_i hl
      exact ⟨a, vs, rfl, SqL.of (r.bh _ _ hb), hr.length.symm.trans hl, h.ok Fo B H ρ σ xs vs ρ' Q r hr e q⟩
    · cases e
  | _ => cases e⟩
/-- a, b = e -/
def gUnp (f : En → R D) (gf : D → En → Option En) : En → Out := gLet f fun d ρ => match gf d ρ with
  | some ρ' => .nx ρ'
  | none => .no
theorem vs_unp {e : Expr} {te : TE} {f : En → R D} (he : VE X W e te f) (hg : VG X tg g gf s1) (hs : swapsWithSole [tg] e pos.line X.env = pure false := by rfl) (hw : swappedStores [tg] e X.env = pure none := by rfl)
    (h1 : (assignEach [tg] X.env).map (·.2) = [assign tg X.env] := by rfl) : VS X W (.Assign [tg] e pos) (tAsg te g) (gUnp f gf) :=
  ⟨ps_asg he.pe hg.pg hs hw h1, fun Fo B H ρ σ D r q => gLet_okE he r q fun d v B' H' s r' hv q' => by
    cases h : gf d ρ with
    | none => rw [h] at q'; exact q'.elim
    | some ρ' =>
      rw [h] at q'
      exact hg.ok Fo B' H' ρ σ d v ρ' _ r' hv h fun σ' r2 _ _ => q' B' H' σ' (Same.refl _) r2⟩
/-- a, b = x, y -/
def gPar (i j : Nat) (f : En → R (List D)) : En → Out := gLet f fun ds ρ => match ds with
  | [x, y] => .nx ((ρ.set i (.v x)).set j (.v y))
  | _ => .no
theorem vs_par (i j : Nat) {x y : Str} {a b : Expr} {ta : TA} {fn : En → R (List D)} {px py pt : Pos} {kt k2 pt2} (hc : X.calm = true) (hN : X.N.Nodup) (ha : VA X W [a, b] ta fn) (hi : X.N[i]? = some x := by rfl) (hj : X.N[j]? = some y := by rfl) (hij : i ≠ j := by decide)
    (hx : X.env.scope.names.lookup x = some .local := by rfl) (hy : X.env.scope.names.lookup y = some .local := by rfl)
    (hw : swappedStores [.Tuple [.Name x px, .Name y py] kt pt] (.Tuple [a, b] k2 pt2) X.env = pure (some [x, y]) := by rfl)
    (hs : swapsWithSole [.Tuple [.Name x px, .Name y py] kt pt] (.Tuple [a, b] k2 pt2) pos.line X.env = pure false := by rfl) :
    VS X W (.Assign [.Tuple [.Name x px, .Name y py] kt pt] (.Tuple [a, b] k2 pt2) pos) (tPar i j ta) (gPar i j fn) :=
  ⟨ps_par hc hN hi hj hij hx hy ha.pe hw hs, fun Fo B H ρ σ D r q => gLet_okA ha r q fun d vs B' H' s r' hv q' => by
    cases hv with
    | nil => exact q'.elim
    | cons r1 w1 =>
      cases w1 with
      | nil => exact q'.elim
      | cons r2 w2 =>
        cases w2 with
        | cons _ _ => exact q'.elim
        | nil => exact ⟨_, _, rfl, q' B' H' _ (Same.refl _) ((r'.setV i r1).setV j r2)⟩⟩
end

/-! ### what is walked -/
/-- from the heap G on, J yields what ds says -/
def Walks (K : PySem.W.Frag) (G : Hp) (J : It) (ds : List D) : Prop := ∀ i H, Same G H →
  (∀ d, ds[i]? = some d → J.go i H ∧ ∀ x H', J.yld i H x H' → ∀ B, Same G B ∨ Same B G → Same B H → (∀ d v, Rep K G d v → Rep K B d v) → ∃ B', Up B H B' H' ∧ Rep K B' d x) ∧ (ds[i]? = none → J.stop i H)
/-- .. its values shared in B, the walked thing in G -/
structure WalkD (K : PySem.W.Frag) (B G : Hp) (J : It) (ds : List D) : Prop where
  go : ∀ i H d, Same G H → ds[i]? = some d → J.go i H ∧ ∀ x H' B1, J.yld i H x H' → Same B B1 → Same B1 H → ∃ B', Up B1 H B' H' ∧ Rep K B' d x
  stop : ∀ i H, Same G H → ds[i]? = none → J.stop i H
theorem WalkD.mono {K : PySem.W.Frag} {B G G' : Hp} {J : It} {ds : List D} (w : WalkD K B G J ds) (s : Same G G') : WalkD K B G' J ds :=
  ⟨fun i H d e => w.go i H d (s.trans e), fun i H e => w.stop i H (s.trans e)⟩
def IPost (K : PySem.W.Frag) (W : WX) (σ : L2.St) (B H : Hp) (r : R (List D)) (Rr : It → Hp → Prop) : Prop := match r with
  | .ok ds => ∀ J B' H', Up B H B' H' → WalkD K B' B' J ds → Rr J H'
  | .er C => ∀ B' H', Up B H B' H' → W (.ref C) none σ H'
  | .no => False
/-- .. while nothing is written -/
def IPostP (K : PySem.W.Frag) (W : WX) (σ : L2.St) (B H : Hp) (r : R (List D)) (Rr : It → Hp → Prop) : Prop := match r with
  | .ok ds => ∀ J B' H', Up B H B' H' → WalkD K B' H' J ds → Rr J H'
  | .er C => ∀ B' H', Up B H B' H' → W (.ref C) none σ H'
  | .no => False
structure VI (X : Cx) (W : WX) (tg iter : Expr) (wi : TI) (f : En → R (List D)) : Prop where
  pi : PI X tg iter wi
  ok : ∀ Fo B H ρ σ Rr, RS X.K Fo B H ρ σ → IPost X.K W σ B H (f ρ) Rr → wi σ H Rr
structure VIP (X : Cx) (W : WX) (tg iter : Expr) (wi : TI) (f : En → R (List D)) : Prop where
  pi : PI X tg iter wi
  ok : ∀ Fo B H ρ σ Rr, RS X.K Fo B H ρ σ → IPostP X.K W σ B H (f ρ) Rr → wi σ H Rr
theorem vip_of {X : Cx} {W : WX} {tg iter : Expr} {wi : TI} {f : En → R (List D)} (h : VI X W tg iter wi f) : VIP X W tg iter wi f := ⟨h.pi, fun Fo B H ρ σ Rr r q => h.ok Fo B H ρ σ Rr r (by
  cases e : f ρ with
  | ok ds => rw [e] at q; exact fun J B' H' u w => q J B' H' u (w.mono u.bh)
  | er C => rw [e] at q; exact q
  | no => rw [e] at q; exact q)⟩
theorem walk_list {K : PySem.W.Frag} {B G : Hp} {a : Addr} {vs : List V} {ds : List D} (inj : ∀ H, Same G H → ∀ xs, SqL K H a xs → xs = vs) (h : SqL K G a vs) (r : RepL K B ds vs) : WalkD K B G (Itl K a) ds where
  go := fun i H d s e => by
    obtain ⟨v, hv, hr⟩ := r.get e
    refine ⟨⟨vs, v, s.seq h, hv⟩, fun x H' B1 y sb sh => ?_⟩
    obtain ⟨rfl, f⟩ := y
    have e2 := f vs (s.seq h)
    rw [hv] at e2
    cases e2
    exact ⟨B1, Up.refl sh, hr.up sb⟩
  stop := fun i H s e => ⟨vs, s.seq h, by rw [← r.length]; exact List.getElem?_eq_none_iff.mp e⟩
theorem walk_listT {K : PySem.W.Frag} {B G : Hp} {a : Addr} {vs : List V} {ds : List D} (h : SqL K G a vs) (r : RepL K B ds vs) : WalkD K B G (Itl K a) ds where
  go := fun i H d s e => by
    obtain ⟨v, hv, hr⟩ := r.get e
    refine ⟨⟨vs, v, s.seq h, hv⟩, fun x H' B1 y sb sh => ?_⟩
    obtain ⟨rfl, f⟩ := y
    have e2 := f vs (s.seq h)
    rw [hv] at e2
    cases e2
    exact ⟨B1, Up.refl sh, hr.up sb⟩
  stop := fun i H s e => ⟨vs, s.seq h, by rw [← r.length]; exact List.getElem?_eq_none_iff.mp e⟩
theorem walk_tupT {K : PySem.W.Frag} {B G : Hp} {a : Addr} {vs : List V} {ds : List D} (h : SqT K G a vs) (r : RepL K B ds vs) : WalkD K B G (Itt K a) ds where
  go := fun i H d s e => by
    obtain ⟨v, hv, hr⟩ := r.get e
    refine ⟨⟨vs, v, VL.SqT.up s h, hv⟩, fun x H' B1 y sb sh => ?_⟩
    obtain ⟨rfl, f⟩ := y
    have e2 := f vs (VL.SqT.up s h)
    rw [hv] at e2
    cases e2
    exact ⟨B1, Up.refl sh, hr.up sb⟩
  stop := fun i H s e => ⟨vs, VL.SqT.up s h, by rw [← r.length]; exact List.getElem?_eq_none_iff.mp e⟩
theorem walk_rng {K : PySem.W.Frag} {B G : Hp} {lo : Int} {n : Nat} : WalkD K B G (Itr lo n) ((List.range n).map fun i => .int (lo + (i : Nat))) where
  go := fun i H d s e => by
    rw [List.getElem?_map] at e
    by_cases hi : i < n
    · rw [List.getElem?_range hi] at e
      cases e
      refine ⟨hi, fun x H' B1 y sb sh => ?_⟩
      obtain ⟨rfl, rfl⟩ := y
      exact ⟨B1, Up.refl sh, .int _⟩
    · rw [List.getElem?_eq_none_iff.mpr (by simp; omega)] at e
      cases e
  stop := fun i H s e => by
    have := List.getElem?_eq_none_iff.mp e
    simp at this
    exact this
theorem walk_rngC {K : PySem.W.Frag} {B G : Hp} {lo c : Int} {n : Nat} : WalkD K B G (Itc lo c n) ((List.range n).map fun i => .int (lo + (i : Nat) * c)) where
  go := fun i H d s e => by
    rw [List.getElem?_map] at e
    by_cases hi : i < n
    · rw [List.getElem?_range hi] at e
      cases e
      refine ⟨hi, fun x H' B1 y sb sh => ?_⟩
      obtain ⟨rfl, rfl⟩ := y
      exact ⟨B1, Up.refl sh, .int _⟩
    · rw [List.getElem?_eq_none_iff.mpr (by simp; omega)] at e
      cases e
  stop := fun i H s e => by
    have := List.getElem?_eq_none_iff.mp e
    simp at this
    exact this
theorem walk_enum {K : PySem.W.Frag} {B G : Hp} {a : Addr} {vs : List V} {ds : List D} (h : SqL K G a vs) (r : RepL K B ds vs) : WalkD K B G (Ite K a) (ds.zipIdx.map fun p => .tup [.int (p.2 : Nat), p.1]) where
  go := fun i H d s e => by
    rw [List.getElem?_map, List.getElem?_zipIdx] at e
    cases hd : ds[i]? with
    | none => rw [hd] at e; cases e
    | some d0 =>
      rw [hd] at e
      simp at e
      subst e
      obtain ⟨v, hv, hr⟩ := r.get hd
      refine ⟨⟨vs, v, s.seq h, hv⟩, fun x H' B1 y sb sh => ?_⟩
      obtain ⟨T, x0, rfl, hT, rfl, f⟩ := y
      have e2 := f vs (s.seq h)
      rw [hv] at e2
      cases e2
      exact ⟨_, Up.new sh hT, .tup upd_same (.cons (.int _) (.cons ((hr.up sb).up (Up.new (o := .tup [V.int (i : Nat), v]) sh hT).b) .nil))⟩
  stop := fun i H s e => ⟨vs, s.seq h, by
    have := List.getElem?_eq_none_iff.mp e
    simp at this
    rw [← r.length]
    exact this⟩
theorem walk_zip {K : PySem.W.Frag} {B G : Hp} {a b : Addr} {vs ws : List V} {ds es : List D} (h : SqL K G a vs) (h' : SqL K G b ws) (r : RepL K B ds vs) (r' : RepL K B es ws) : WalkD K B G (Itz K a b) ((ds.zip es).map fun p => .tup [p.1, p.2]) where
  go := fun i H d s e => by
    rw [List.getElem?_map] at e
    cases hz : (ds.zip es)[i]? with
    | none => rw [hz] at e; cases e
    | some p =>
      rw [hz] at e
      cases e
      obtain ⟨d1, d2⟩ := p
      have hz' := hz
      rw [List.getElem?_zip_eq_some] at hz'
      obtain ⟨e1, e2⟩ := hz'
      obtain ⟨v, hv, hr⟩ := r.get e1
      obtain ⟨w, hw, hr'⟩ := r'.get e2
      refine ⟨⟨vs, ws, v, w, s.seq h, s.seq h', hv, hw⟩, fun x H' B1 y sb sh => ?_⟩
      obtain ⟨T, x0, y0, rfl, hT, rfl, f1, f2⟩ := y
      have q1 := f1 vs (s.seq h)
      rw [hv] at q1
      cases q1
      have q2 := f2 ws (s.seq h')
      rw [hw] at q2
      cases q2
      have ub := (Up.new (o := .tup [v, w]) sh hT).b
      exact ⟨_, Up.new sh hT, .tup upd_same (.cons ((hr.up sb).up ub) (.cons ((hr'.up sb).up ub) .nil))⟩
  stop := fun i H s e => ⟨vs, ws, s.seq h, s.seq h', by
    have := List.getElem?_eq_none_iff.mp e
    simp at this
    rw [← r.length, ← r'.length]
    omega⟩
def dIList (f : En → R D) : En → R (List D) := fun ρ => (f ρ).bind fun d => match d with
  | .lst ds => .ok ds
  | .ro ds => .ok ds
  | _ => .no
def dITup (f : En → R D) : En → R (List D) := fun ρ => (f ρ).bind fun d => match d with
  | .tup ds => .ok ds
  | .ct ds => .ok ds
  | _ => .no
def rngD (lo hi : Int) : List D := (List.range (hi - lo).toNat).map fun i => .int (lo + (i : Nat))
def rngC (lo c : Int) (n : Nat) : List D := (List.range n).map fun i => .int (lo + (i : Nat) * c)
def dRng (f : En → R (List D)) : En → R (List D) := fun ρ => (f ρ).bind fun ds => match ds with
  | [.int j] => if -(2 ^ 62) ≤ j ∧ j < 2 ^ 62 then .ok (rngD 0 j) else .no
  | [.int i, .int j] => if -(2 ^ 62) ≤ i ∧ i < 2 ^ 62 ∧ -(2 ^ 62) ≤ j ∧ j < 2 ^ 62 then .ok (rngD i j) else .no
  | [.int i, .int j, .int c] => if c ≠ 0 ∧ c.natAbs < 1073741824 ∧ Builtin.Range.small i j c = true ∧ 0 ≤ Builtin.Range.rangeSize i j c then .ok (rngC i c (Builtin.Range.rangeSize i j c).toNat) else .no
  | _ => .no
def dEnum (f : En → R (List D)) : En → R (List D) := fun ρ => (f ρ).bind fun ds => match ds with
  | [.lst xs] => .ok (xs.zipIdx.map fun p => .tup [.int (p.2 : Nat), p.1])
  | _ => .no
def dZip (f : En → R (List D)) : En → R (List D) := fun ρ => (f ρ).bind fun ds => match ds with
  | [.lst xs, .lst ys] => .ok ((xs.zip ys).map fun p => .tup [p.1, p.2])
  | _ => .no
section
variable {X : Cx} {W : WX} {tg l : Expr} {tl : TE} {f : En → R D} {fn : En → R (List D)} {tA : TA} {p pos : Pos}
/-- a walk by a value -/
theorem vi_list (h : VE X W l tl f) : VI X W tg l (iList X.K tl) (dIList f) := ⟨pi_list h.pe, fun Fo B H ρ σ Rr r q => by
  unfold dIList at q
  refine h.ok Fo B H ρ σ _ r ?_
  cases e : f ρ with
  | no => rw [e] at q; exact q
  | er C => rw [e] at q; exact q
  | ok d =>
    rw [e, R.bind_ok] at q
    intro v B' H' u hv
    cases hv with
    | lst h1 h2 => exact ⟨_, rfl, ⟨_, SqL.of (u.bh _ _ h1)⟩, q _ B' H' u (walk_listT (SqL.of h1) h2)⟩
    | ro h1 h2 => exact ⟨_, rfl, ⟨_, u.bh.seq h1⟩, q _ B' H' u (walk_listT h1 h2)⟩
    | _ => exact q.elim⟩
theorem vip_list (h : VP X W l tl f) : VIP X W tg l (iList X.K tl) (dIList f) := ⟨pi_list h.pe, fun Fo B H ρ σ Rr r q => by
  unfold dIList at q
  refine h.ok Fo B H ρ σ _ r ?_
  cases e : f ρ with
  | no => rw [e] at q; exact q
  | er C => rw [e] at q; exact q
  | ok d =>
    rw [e, R.bind_ok] at q
    intro v B' H' u hv
    rcases hv with hv | ⟨xs, p, vs, rfl, rfl, a1, a2⟩
    · cases hv with
      | lst h1 h2 => exact ⟨_, rfl, ⟨_, SqL.of (u.bh _ _ h1)⟩, q _ B' H' u (walk_listT (SqL.of (u.bh _ _ h1)) h2)⟩
      | ro h1 h2 => exact ⟨_, rfl, ⟨_, u.bh.seq h1⟩, q _ B' H' u (walk_listT (u.bh.seq h1) h2)⟩
      | _ => exact q.elim
    · exact ⟨_, rfl, ⟨_, SqL.of a1⟩, q _ B' H' u (walk_listT (SqL.of a1) a2)⟩⟩
theorem vi_tup (h : VE X W l tl f) : VI X W tg l (iTup X.K tl) (dITup f) := ⟨pi_tup h.pe, fun Fo B H ρ σ Rr r q => by
  unfold dITup at q
  refine h.ok Fo B H ρ σ _ r ?_
  cases e : f ρ with
  | no => rw [e] at q; exact q
  | er C => rw [e] at q; exact q
  | ok d =>
    rw [e, R.bind_ok] at q
    intro v B' H' u hv
    cases hv with
    | tup h1 h2 => exact ⟨_, rfl, ⟨_, SqT.of (u.bh _ _ h1)⟩, q _ B' H' u (walk_tupT (SqT.of h1) h2)⟩
    | ct h1 h2 => exact ⟨_, rfl, ⟨_, VL.SqT.up u.bh h1⟩, q _ B' H' u (walk_tupT h1 h2)⟩
    | _ => exact q.elim⟩
theorem vi_args {r : List V → Hp → (It → Hp → Prop) → Prop} {g : List D → R (List D)} {es : List Expr} (ha : VA X W es tA fn) (hr : ∀ B H vs ds xs (Rr : It → Hp → Prop), Same B H → RepL X.K B ds vs → g ds = .ok xs → (∀ J, WalkD X.K B B J xs → Rr J H) → r vs H Rr) (hg : ∀ ds C, g ds ≠ .er C)
    {Fo B H ρ σ Rr} (rs : RS X.K Fo B H ρ σ) (q : IPost X.K W σ B H ((fn ρ).bind g) Rr) : tA σ H fun vs H1 => r vs H1 Rr := by
  refine ha.ok Fo B H ρ σ _ rs ?_
  cases e : fn ρ with
  | no => rw [e] at q; exact q
  | er C => rw [e] at q; exact q
  | ok ds =>
    rw [e, R.bind_ok] at q
    intro vs B' H' u hv
    cases e2 : g ds with
    | no => rw [e2] at q; exact q.elim
    | er C => exact absurd e2 (hg ds C)
    | ok xs =>
      rw [e2] at q
      exact hr B' H' vs ds xs Rr u.bh hv e2 fun J w => q J B' H' u w
theorem vip_args {r : List V → Hp → (It → Hp → Prop) → Prop} {g : List D → R (List D)} {es : List Expr} (ha : VAP X W es tA fn) (hr : ∀ B H vs ds xs (Rr : It → Hp → Prop), Same B H → RepTL X.K B H ds vs → g ds = .ok xs → (∀ J, WalkD X.K B H J xs → Rr J H) → r vs H Rr) (hg : ∀ ds C, g ds ≠ .er C)
    {Fo B H ρ σ Rr} (rs : RS X.K Fo B H ρ σ) (q : IPostP X.K W σ B H ((fn ρ).bind g) Rr) : tA σ H fun vs H1 => r vs H1 Rr := by
  refine ha.ok Fo B H ρ σ _ rs ?_
  cases e : fn ρ with
  | no => rw [e] at q; exact q
  | er C => rw [e] at q; exact q
  | ok ds =>
    rw [e, R.bind_ok] at q
    intro vs B' H' u hv
    cases e2 : g ds with
    | no => rw [e2] at q; exact q.elim
    | er C => exact absurd e2 (hg ds C)
    | ok xs =>
      rw [e2] at q
      exact hr B' H' vs ds xs Rr u.bh hv e2 fun J w => q J B' H' u w
theorem repL_1 {K : PySem.W.Frag} {B : Hp} {d : D} {vs : List V} (h : RepL K B [d] vs) : ∃ v, vs = [v] ∧ Rep K B d v := by
  cases h with
  | cons a b => cases b; exact ⟨_, rfl, a⟩
theorem repL_2 {K : PySem.W.Frag} {B : Hp} {d e : D} {vs : List V} (h : RepL K B [d, e] vs) : ∃ v w, vs = [v, w] ∧ Rep K B d v ∧ Rep K B e w := by
  cases h with
  | cons a b =>
    obtain ⟨w, rfl, c⟩ := repL_1 b
    exact ⟨_, _, rfl, a, c⟩
theorem repL_3 {K : PySem.W.Frag} {B : Hp} {d e f : D} {vs : List V} (h : RepL K B [d, e, f] vs) : ∃ v w x, vs = [v, w, x] ∧ Rep K B d v ∧ Rep K B e w ∧ Rep K B f x := by
  cases h with
  | cons a b =>
    obtain ⟨w, x, rfl, c, c'⟩ := repL_2 b
    exact ⟨_, _, _, rfl, a, c, c'⟩
theorem rep_int {K : PySem.W.Frag} {B : Hp} {i : Int} {v : V} (h : Rep K B (.int i) v) : v = .int i := by cases h; rfl
def grng : List D → R (List D) := fun ds => match ds with
  | [.int j] => if -(2 ^ 62) ≤ j ∧ j < 2 ^ 62 then .ok (rngD 0 j) else .no
  | [.int i, .int j] => if -(2 ^ 62) ≤ i ∧ i < 2 ^ 62 ∧ -(2 ^ 62) ≤ j ∧ j < 2 ^ 62 then .ok (rngD i j) else .no
  | [.int i, .int j, .int c] => if c ≠ 0 ∧ c.natAbs < 1073741824 ∧ Builtin.Range.small i j c = true ∧ 0 ≤ Builtin.Range.rangeSize i j c then .ok (rngC i c (Builtin.Range.rangeSize i j c).toNat) else .no
  | _ => .no
theorem grng_er (ds : List D) (C : Addr) : grng ds ≠ .er C := fun h => by
  unfold grng at h
  split at h
  · rename_i j
    by_cases q : -(2 ^ 62) ≤ j ∧ j < 2 ^ 62
    · rw [if_pos q] at h; cases h
    · rw [if_neg q] at h; cases h
  · rename_i i j
    by_cases q : -(2 ^ 62) ≤ i ∧ i < 2 ^ 62 ∧ -(2 ^ 62) ≤ j ∧ j < 2 ^ 62
    · rw [if_pos q] at h; cases h
    · rw [if_neg q] at h; cases h
  · rename_i i j c
    by_cases q : c ≠ 0 ∧ c.natAbs < 1073741824 ∧ Builtin.Range.small i j c = true ∧ 0 ≤ Builtin.Range.rangeSize i j c
    · rw [if_pos q] at h; cases h
    · rw [if_neg q] at h; cases h
  · cases h
theorem vi_range1 {a : Expr} (hm : X.mg "range" = none) (ha : VA X W [a] tA fn) (hl : ∀ ρ ds, fn ρ = .ok ds → ds.length = 1 := by repeat (first | exact len_nil | refine len_cons ?_)) (hg : Gl X "range" := by rfl) (hs : starEach [a] X.env = [(false, eval a X.env)] := by rfl) : VI X W tg (.Call (.Name "range" p) [a] [] pos) (iRng1 tA) (dRng fn) := ⟨pi_range1 hg hm ha.pe hs, fun Fo B H ρ σ Rr rs q => by
  have q' : IPost X.K W σ B H ((fn ρ).bind grng) Rr := q
  refine ha.ok Fo B H ρ σ _ rs ?_
  cases e : fn ρ with
  | no => rw [e] at q'; exact q'
  | er C => rw [e] at q'; exact q'
  | ok ds =>
    rw [e, R.bind_ok] at q'
    have hd := hl ρ ds e
    match ds, hd with
    | [d], _ =>
      intro vs B' H' u hvs
      obtain ⟨v, rfl, hv⟩ := repL_1 hvs
      cases d with
      | int j =>
        cases rep_int hv
        unfold grng at q'
        dsimp only at q'
        by_cases hj : -(2 ^ 62) ≤ j ∧ j < 2 ^ 62
        · rw [if_pos hj] at q'
          refine ⟨j, rfl, hj.1, hj.2, q' _ B' H' u ?_⟩
          unfold rngD
          rw [Int.sub_zero]
          exact walk_rng
        · rw [if_neg hj] at q'
          exact q'.elim
      | _ => exact q'.elim⟩
theorem vi_range2 {a b : Expr} (hm : X.mg "range" = none) (ha : VA X W [a, b] tA fn) (hl : ∀ ρ ds, fn ρ = .ok ds → ds.length = 2 := by repeat (first | exact len_nil | refine len_cons ?_)) (hg : Gl X "range" := by rfl)
    (hs : starEach [a, b] X.env = [(false, eval a X.env), (false, eval b X.env)] := by rfl) (hs2 : starEach [b] X.env = [(false, eval b X.env)] := by rfl) : VI X W tg (.Call (.Name "range" p) [a, b] [] pos) (iRng2 tA) (dRng fn) := ⟨pi_range2 hg hm ha.pe hs hs2, fun Fo B H ρ σ Rr rs q => by
  have q' : IPost X.K W σ B H ((fn ρ).bind grng) Rr := q
  refine ha.ok Fo B H ρ σ _ rs ?_
  cases e : fn ρ with
  | no => rw [e] at q'; exact q'
  | er C => rw [e] at q'; exact q'
  | ok ds =>
    rw [e, R.bind_ok] at q'
    have hd := hl ρ ds e
    match ds, hd with
    | [d, d2], _ =>
      intro vs B' H' u hvs
      obtain ⟨v, w, rfl, hv, hw⟩ := repL_2 hvs
      cases d with
      | int i =>
        cases d2 with
        | int j =>
          cases rep_int hv
          cases rep_int hw
          unfold grng at q'
          dsimp only at q'
          by_cases hj : -(2 ^ 62) ≤ i ∧ i < 2 ^ 62 ∧ -(2 ^ 62) ≤ j ∧ j < 2 ^ 62
          · rw [if_pos hj] at q'
            exact ⟨i, j, rfl, hj, q' _ B' H' u walk_rng⟩
          · rw [if_neg hj] at q'
            exact q'.elim
        | _ => exact q'.elim
      | _ => cases d2 <;> exact q'.elim⟩
theorem vi_range3 {a b c : Expr} (hm : X.mg "range" = none) (ha : VA X W [a, b, c] tA fn) (hl : ∀ ρ ds, fn ρ = .ok ds → ds.length = 3 := by repeat (first | exact len_nil | refine len_cons ?_)) (hg : Gl X "range" := by rfl)
    (hs : starEach [a, b, c] X.env = (false, eval a X.env) :: starEach [b, c] X.env := by rfl) (hpl : (backTo pos (starEach [b, c] X.env)).any (·.1) = false := by rfl) : VI X W tg (.Call (.Name "range" p) [a, b, c] [] pos) (iRng3 tA) (dRng fn) := ⟨pi_range3 hg hm ha.pe hs hpl, fun Fo B H ρ σ Rr rs q => by
  have q' : IPost X.K W σ B H ((fn ρ).bind grng) Rr := q
  refine ha.ok Fo B H ρ σ _ rs ?_
  cases e : fn ρ with
  | no => rw [e] at q'; exact q'
  | er C => rw [e] at q'; exact q'
  | ok ds =>
    rw [e, R.bind_ok] at q'
    have hd := hl ρ ds e
    match ds, hd with
    | [d, d2, d3], _ =>
      intro vs B' H' u hvs
      obtain ⟨v, w, x, rfl, hv, hw, hx⟩ := repL_3 hvs
      cases d with
      | int i =>
        cases d2 with
        | int j =>
          cases d3 with
          | int k =>
            cases rep_int hv
            cases rep_int hw
            cases rep_int hx
            unfold grng at q'
            dsimp only at q'
            by_cases hj : k ≠ 0 ∧ k.natAbs < 1073741824 ∧ Builtin.Range.small i j k = true ∧ 0 ≤ Builtin.Range.rangeSize i j k
            · rw [if_pos hj] at q'
              exact ⟨i, j, k, _, rfl, ⟨hj.1, hj.2.1, hj.2.2.1, (Int.toNat_of_nonneg hj.2.2.2).symm⟩, q' _ B' H' u walk_rngC⟩
            · rw [if_neg hj] at q'
              exact q'.elim
          | _ => exact q'.elim
        | _ => cases d3 <;> exact q'.elim
      | _ => cases d2 <;> cases d3 <;> exact q'.elim⟩
end
end VL
set_option maxRecDepth 100000
set_option maxHeartbeats 4000000
namespace VL
open PySem PySem.Spec PyProof.Rows L2

section
variable {X : Cx} {W : WX} {tg iter e e2 : Expr} {wi : TI} {g : TG} {gf : D → En → Option En} {sl : List Nat} {tb : TS} {gb : En → Out} {fi : En → R (List D)} {tA : TA} {fn : En → R (List D)} {body : List Stmt} {p pos tpos : Pos} {elts : List Expr} {kk : Nat}
/-! ### enumerate, zip -/
def genum : List D → R (List D) := fun ds => match ds with
  | [.lst xs] => .ok (xs.zipIdx.map fun p => .tup [.int (p.2 : Nat), p.1])
  | _ => .no
def gzip : List D → R (List D) := fun ds => match ds with
  | [.lst xs, .lst ys] => .ok ((xs.zip ys).map fun p => .tup [p.1, p.2])
  | _ => .no
theorem genum_er (ds : List D) (C : Addr) : genum ds ≠ .er C := fun h => by
  unfold genum at h
  split at h <;> cases h
theorem gzip_er (ds : List D) (C : Addr) : gzip ds ≠ .er C := fun h => by
  unfold gzip at h
  split at h <;> cases h
theorem repT_lst {K : PySem.W.Frag} {B H : Hp} {xs : List D} {v : V} (s : Same B H) (h : RepT K B H (.lst xs) v) : ∃ a vs, v = .ref a ∧ H a = some (.lst vs) ∧ RepL K B xs vs := by
  rcases h with h | ⟨ys, p, vs, e, e2, a1, a2⟩
  · cases h with
    | lst h1 h2 => exact ⟨_, _, rfl, s _ _ h1, h2⟩
  · cases e
    exact ⟨_, _, e2, a1, a2⟩
theorem repTL_1 {K : PySem.W.Frag} {B H : Hp} {d : D} {vs : List V} (h : RepTL K B H [d] vs) : ∃ v, vs = [v] ∧ RepT K B H d v := by
  cases h with
  | cons a b => cases b; exact ⟨_, rfl, a⟩
theorem repTL_2 {K : PySem.W.Frag} {B H : Hp} {d e : D} {vs : List V} (h : RepTL K B H [d, e] vs) : ∃ v w, vs = [v, w] ∧ RepT K B H d v ∧ RepT K B H e w := by
  cases h with
  | cons a b =>
    obtain ⟨w, rfl, c⟩ := repTL_1 b
    exact ⟨_, _, rfl, a, c⟩
theorem genum_inv {ds xs : List D} (h : genum ds = .ok xs) : ∃ ys, ds = [.lst ys] ∧ xs = ys.zipIdx.map fun p => .tup [.int (p.2 : Nat), p.1] := by
  unfold genum at h
  split at h
  · cases h; exact ⟨_, rfl, rfl⟩
  · cases h
theorem gzip_inv {ds xs : List D} (h : gzip ds = .ok xs) : ∃ ys zs, ds = [.lst ys, .lst zs] ∧ xs = (ys.zip zs).map fun p => .tup [p.1, p.2] := by
  unfold gzip at h
  split at h
  · cases h; exact ⟨_, _, rfl, rfl⟩
  · cases h
theorem vi_enum (hm : X.mg "enumerate" = none) (ha : VA X W [e] tA fn) (hp : PA X [e] tA → PI X (.Tuple elts kk tpos) (.Call (.Name "enumerate" p) [e] [] pos) (iEnum X.K tA)) : VI X W (.Tuple elts kk tpos) (.Call (.Name "enumerate" p) [e] [] pos) (iEnum X.K tA) (fun ρ => (fn ρ).bind genum) :=
  ⟨hp ha.pe, fun Fo B H ρ σ Rr rs q => vi_args (r := fun vs H1 R => ∃ (a : Addr) (xs : List V), vs = [.ref a] ∧ SqL X.K H1 a xs ∧ R (Ite X.K a) H1) ha (fun B H vs ds xs Rr s hr hx k => by
    obtain ⟨ys, rfl, rfl⟩ := genum_inv hx
    obtain ⟨v, rfl, hv⟩ := repL_1 hr
    cases hv with
    | lst h1 h2 => exact ⟨_, _, rfl, SqL.of (s _ _ h1), k _ (walk_enum (SqL.of h1) h2)⟩) genum_er rs q⟩
theorem vip_enum (hm : X.mg "enumerate" = none) (ha : VAP X W [e] tA fn) (hp : PA X [e] tA → PI X (.Tuple elts kk tpos) (.Call (.Name "enumerate" p) [e] [] pos) (iEnum X.K tA)) : VIP X W (.Tuple elts kk tpos) (.Call (.Name "enumerate" p) [e] [] pos) (iEnum X.K tA) (fun ρ => (fn ρ).bind genum) :=
  ⟨hp ha.pe, fun Fo B H ρ σ Rr rs q => vip_args (r := fun vs H1 R => ∃ (a : Addr) (xs : List V), vs = [.ref a] ∧ SqL X.K H1 a xs ∧ R (Ite X.K a) H1) ha (fun B H vs ds xs Rr s hr hx k => by
    obtain ⟨ys, rfl, rfl⟩ := genum_inv hx
    obtain ⟨v, rfl, hv⟩ := repTL_1 hr
    obtain ⟨a, us, rfl, h1, h2⟩ := repT_lst s hv
    exact ⟨_, _, rfl, SqL.of h1, k _ (walk_enum (SqL.of h1) h2)⟩) genum_er rs q⟩
theorem vi_zip (hm : X.mg "zip" = none) (ha : VA X W [e, e2] tA fn) (hp : PA X [e, e2] tA → PI X (.Tuple elts kk tpos) (.Call (.Name "zip" p) [e, e2] [] pos) (iZip X.K tA)) : VI X W (.Tuple elts kk tpos) (.Call (.Name "zip" p) [e, e2] [] pos) (iZip X.K tA) (fun ρ => (fn ρ).bind gzip) :=
  ⟨hp ha.pe, fun Fo B H ρ σ Rr rs q => vi_args (r := fun vs H1 R => ∃ a b xs ys, vs = [.ref a, .ref b] ∧ SqL X.K H1 a xs ∧ SqL X.K H1 b ys ∧ R (Itz X.K a b) H1) ha (fun B H vs ds xs Rr s hr hx k => by
    obtain ⟨ys, zs, rfl, rfl⟩ := gzip_inv hx
    obtain ⟨v, w, rfl, hv, hw⟩ := repL_2 hr
    cases hv with
    | lst h1 h2 => cases hw with
      | lst h3 h4 => exact ⟨_, _, _, _, rfl, SqL.of (s _ _ h1), SqL.of (s _ _ h3), k _ (walk_zip (SqL.of h1) (SqL.of h3) h2 h4)⟩) gzip_er rs q⟩
theorem vip_zip (hm : X.mg "zip" = none) (ha : VAP X W [e, e2] tA fn) (hp : PA X [e, e2] tA → PI X (.Tuple elts kk tpos) (.Call (.Name "zip" p) [e, e2] [] pos) (iZip X.K tA)) : VIP X W (.Tuple elts kk tpos) (.Call (.Name "zip" p) [e, e2] [] pos) (iZip X.K tA) (fun ρ => (fn ρ).bind gzip) :=
  ⟨hp ha.pe, fun Fo B H ρ σ Rr rs q => vip_args (r := fun vs H1 R => ∃ a b xs ys, vs = [.ref a, .ref b] ∧ SqL X.K H1 a xs ∧ SqL X.K H1 b ys ∧ R (Itz X.K a b) H1) ha (fun B H vs ds xs Rr s hr hx k => by
    obtain ⟨ys, zs, rfl, rfl⟩ := gzip_inv hx
    obtain ⟨v, w, rfl, hv, hw⟩ := repTL_2 hr
    obtain ⟨a, us, rfl, h1, h2⟩ := repT_lst s hv
    obtain ⟨b, ws, rfl, h3, h4⟩ := repT_lst s hw
    exact ⟨_, _, _, _, rfl, SqL.of h1, SqL.of h3, k _ (walk_zip (SqL.of h1) (SqL.of h3) h2 h4)⟩) gzip_er rs q⟩

/-! ### for, while -/
theorem vs_for (C : Ctx X W) (hi : VI X W tg iter wi fi) (hg : VG X tg g gf sl) (hb : VSs X W body tb gb) (hs : ∀ x, foldedSetIterable iter X.env x = pure x := by intro _; rfl) : VS X W (.For tg iter body [] pos) (tFor wi g tb) (gFor fi gf gb) :=
  ⟨ps_for C.po C.calm hi.pi hg.pg hb.ps hs, fun Fo B H ρ σ D r q => by
    unfold gFor gLet at q
    refine hi.ok Fo B H ρ σ _ r ?_
    cases h : fi ρ with
    | no => rw [h] at q; exact q
    | er C => rw [h] at q; exact fun B' H' u => q B' H' σ u.b (r.up u)
    | ok ds =>
      rw [h] at q
      intro J B0 H0 u w
      refine ⟨fun i m σ' H' => m = ds.length - i ∧ i ≤ ds.length ∧ ∃ B' ρ', Same B0 B' ∧ RS X.K Fo B' H' ρ' σ' ∧ SPost X.K W Fo B' (forD gf gb (ds.drop i) ρ') D, ⟨ds.length, by simp, Nat.zero_le _, B0, ρ, Same.refl _, r.up u, SPost.next u.b q⟩, ?_⟩
      rintro i m σ1 H1 ⟨rfl, hi', B1, ρ1, s1, r1, q1⟩
      by_cases hl : i < ds.length
      · right
        have hd : ds[i]? = some ds[i] := List.getElem?_eq_getElem hl
        have sG : Same B0 H1 := s1.trans r1.bh
        refine ⟨(w.go i H1 ds[i] sG hd).1, fun σ' H' => ds.length - (i + 1) = ds.length - (i + 1) ∧ i + 1 ≤ ds.length ∧ ∃ B' ρ', Same B0 B' ∧ RS X.K Fo B' H' ρ' σ' ∧ SPost X.K W Fo B' (forD gf gb (ds.drop (i + 1)) ρ') D,
          fun σ' H' hN => ⟨ds.length - (i + 1), by omega, rfl, hN.2⟩, fun x H2 y => ?_⟩
        obtain ⟨B2, u2, hx⟩ := (w.go i H1 ds[i] sG hd).2 x H2 B1 y s1 r1.bh
        have r2 := r1.up u2
        rw [List.drop_eq_getElem_cons hl] at q1
        unfold forD at q1
        cases h3 : gf ds[i] ρ1 with
        | none => rw [h3] at q1; exact q1.elim
        | some ρ2 =>
          rw [h3] at q1
          dsimp only at q1
          refine hg.ok Fo B2 H2 ρ1 σ1 ds[i] x ρ2 _ r2 hx h3 fun σ3 r3 _ _ => ?_
          refine hb.ok Fo B2 H2 ρ2 σ3 _ r3 ?_
          cases h4 : gb ρ2 with
          | nx ρ3 =>
            rw [h4] at q1
            exact fun B' H' σ' s' r' => ⟨rfl, hl, B', ρ3, (s1.trans u2.b).trans s', r', SPost.next (u2.b.trans s') q1⟩
          | ct ρ3 =>
            rw [h4] at q1
            exact fun B' H' σ' s' r' => ⟨rfl, hl, B', ρ3, (s1.trans u2.b).trans s', r', SPost.next (u2.b.trans s') q1⟩
          | bk ρ3 =>
            rw [h4] at q1
            exact fun B' H' σ' s' r' => q1 B' H' σ' (u2.b.trans s') r'
          | rt d => rw [h4] at q1; exact SPost.next (o := .rt d) (D := { D with nx := _, ct := _, bk := D.nx }) u2.b q1
          | rn d => rw [h4] at q1; exact SPost.next (o := .rn d) (D := { D with nx := _, ct := _, bk := D.nx }) u2.b q1
          | er C ρ3 => rw [h4] at q1; exact SPost.next (o := .er C ρ3) (D := { D with nx := _, ct := _, bk := D.nx }) u2.b q1
          | no => rw [h4] at q1; exact q1
      · left
        have hd : ds[i]? = none := List.getElem?_eq_none_iff.mpr (by omega)
        rw [List.drop_eq_nil_of_le (by omega)] at q1
        exact ⟨w.stop i H1 (s1.trans r1.bh) hd, q1 B1 H1 σ1 (Same.refl _) r1⟩⟩
theorem vs_while (n : Nat) {c : Expr} {tc : TT} {gt : En → R Bool} (C : Ctx X W) (hc : VT X W c tc gt) (hb : VSs X W body tb gb) : VS X W (.While c body [] pos) (tWhile tc tb) (gWhile n gt gb) :=
  ⟨ps_while C.po hc.pe hb.ps, fun Fo B H ρ σ D r q => by
    refine ⟨fun m σ' H' => ∃ B' ρ', Same B B' ∧ RS X.K Fo B' H' ρ' σ' ∧ SPost X.K W Fo B' (whileD gt gb m ρ') D, ⟨n, B, ρ, Same.refl _, r, q⟩, ?_⟩
    rintro m σ1 H1 ⟨B1, ρ1, s1, r1, q1⟩
    cases m with
    | zero => exact q1.elim
    | succ m =>
      unfold whileD at q1
      refine hc.ok Fo B1 H1 ρ1 σ1 _ r1 ?_
      cases h : gt ρ1 with
      | no => rw [h] at q1; exact q1
      | er C => rw [h] at q1; exact fun B' H' u => q1 B' H' σ1 u.b (r1.up u)
      | ok b =>
        rw [h] at q1
        intro B2 H2 u2
        have r2 := r1.up u2
        cases b with
        | false => exact iteF (q1 B2 H2 σ1 u2.b r2)
        | true =>
          refine iteT ⟨fun σ' H' => ∃ B' ρ', Same B B' ∧ RS X.K Fo B' H' ρ' σ' ∧ SPost X.K W Fo B' (whileD gt gb m ρ') D, fun σ' H' hN => ⟨m, Nat.lt_succ_self m, hN⟩, ?_⟩
          refine hb.ok Fo B2 H2 ρ1 σ1 _ r2 ?_
          dsimp only at q1
          cases h4 : gb ρ1 with
          | nx ρ3 =>
            rw [h4] at q1
            exact fun B' H' σ' s' r' => ⟨B', ρ3, (s1.trans u2.b).trans s', r', SPost.next (u2.b.trans s') q1⟩
          | ct ρ3 =>
            rw [h4] at q1
            exact fun B' H' σ' s' r' => ⟨B', ρ3, (s1.trans u2.b).trans s', r', SPost.next (u2.b.trans s') q1⟩
          | bk ρ3 =>
            rw [h4] at q1
            exact fun B' H' σ' s' r' => q1 B' H' σ' (u2.b.trans s') r'
          | rt d => rw [h4] at q1; exact SPost.next (o := .rt d) (D := { D with nx := _, ct := _, bk := D.nx }) u2.b q1
          | rn d => rw [h4] at q1; exact SPost.next (o := .rn d) (D := { D with nx := _, ct := _, bk := D.nx }) u2.b q1
          | er C ρ3 => rw [h4] at q1; exact SPost.next (o := .er C ρ3) (D := { D with nx := _, ct := _, bk := D.nx }) u2.b q1
          | no => rw [h4] at q1; exact q1⟩

/-! ### comprehensions -/
abbrev W0 : WX := fun _ _ _ _ => False
def wipeE (ρ : En) : List Nat → En
  | [] => ρ
  | v :: vs => (wipeE ρ vs).set v .un
theorem RS.wiped {K : PySem.W.Frag} {Fo B H : Hp} {ρ : En} {σ : L2.St} (r : RS K Fo B H ρ σ) : ∀ vs : List Nat, RS K Fo B H (wipeE ρ vs) (wipe σ vs)
  | [] => r
  | v :: vs => (r.wiped vs).setU v none
def lcD (gf : D → En → Option En) (gt : En → R Bool) (ge : En → R D) (ρ0 : En) : List D → R (List D)
  | [] => .ok []
  | d :: ds => match gf d ρ0 with
    | none => .no
    | some ρ1 => match gt ρ1 with
      | .ok true => (match ge ρ1 with
        | .ok y => (lcD gf gt ge ρ0 ds).bind fun ys => .ok (y :: ys)
        | _ => .no)
      | .ok false => lcD gf gt ge ρ0 ds
      | _ => .no
def dLc (vs : List Nat) (fi : En → R (List D)) (gf : D → En → Option En) (gt : En → R Bool) (ge : En → R D) : En → R (List D) := fun ρ => (fi ρ).bind fun ds => if ds.length ≤ sizeLine then lcD gf gt ge (wipeE ρ vs) ds else .no
def dYes : En → R Bool := fun _ => .ok true
theorem lcD_len {gf : D → En → Option En} {gt : En → R Bool} {ge : En → R D} {ρ0 : En} : ∀ {ds ys : List D}, lcD gf gt ge ρ0 ds = .ok ys → ys.length ≤ ds.length
  | [], ys, h => by cases h; exact Nat.le_refl _
  | d :: ds, ys, h => by
    unfold lcD at h
    cases h1 : gf d ρ0 with
    | none => rw [h1] at h; cases h
    | some ρ1 =>
      rw [h1] at h
      dsimp only at h
      cases h2 : gt ρ1 with
      | no => rw [h2] at h; cases h
      | er C => rw [h2] at h; cases h
      | ok b =>
        rw [h2] at h
        cases b with
        | false => exact Nat.le_succ_of_le (lcD_len h)
        | true =>
          dsimp only at h
          cases h3 : ge ρ1 with
          | no => rw [h3] at h; cases h
          | er C => rw [h3] at h; cases h
          | ok y =>
            rw [h3] at h
            dsimp only at h
            cases h4 : lcD gf gt ge ρ0 ds with
            | no => rw [h4] at h; cases h
            | er C => rw [h4] at h; cases h
            | ok zs =>
              rw [h4, R.bind_ok] at h
              cases h
              exact Nat.succ_le_succ (lcD_len h4)
structure VTs (X : Cx) (W : WX) (ifs : List Expr) (t : TT) (f : En → R Bool) : Prop where
  pe : PTs X ifs t
  ok : ∀ Fo B H ρ σ Q, RS X.K Fo B H ρ σ → TPost W σ B H (f ρ) Q → t σ H Q
theorem vts_nil : VTs X W [] tYes dYes := ⟨pts_nil, fun Fo B H ρ σ Q r q => q B H r.same⟩
theorem vts_one {c : Expr} {t : TT} {f : En → R Bool} (h : VT X W c t f) : VTs X W [c] t f := ⟨pts_one h.pe, h.ok⟩
theorem tLc_ok {tt : TT} {te : TE} {gt : En → R Bool} {ge : En → R D} {vs : List Nat} {Q : VK}
    (hi : VIP X W tg iter wi fi) (hg : ∀ Fo B H ρ σ d v ρ' (Q : L2.St → Hp → Prop), RS X.K Fo B H ρ σ → Rep X.K B d v → gf d ρ = some ρ' → (∀ σ', RS X.K Fo B H ρ' σ' → σ'.length = σ.length → (∀ j, j ∉ sl → σ'[j]? = σ[j]?) → Q σ' H) → g v σ H Q) (hsl : ∀ j ∈ sl, j ∈ vs)
    (ht : ∀ Fo B H ρ σ Q, RS X.K Fo B H ρ σ → TPost W0 σ B H (gt ρ) Q → tt σ H Q) (he : ∀ Fo B H ρ σ Q, RS X.K Fo B H ρ σ → EPost X.K W0 σ B H (ge ρ) Q → te σ H Q) {Fo B H ρ σ} (rs : RS X.K Fo B H ρ σ) (q : NPost X.K W σ B H (dLc vs fi gf gt ge ρ) Q) : tLc wi g tt te vs σ H Q := by
  unfold dLc at q
  refine hi.ok Fo B H ρ σ _ rs ?_
  cases h : fi ρ with
  | no => rw [h] at q; exact q
  | er C => rw [h] at q; exact q
  | ok ds =>
    rw [h, R.bind_ok] at q
    intro J B0 H0 u w Dp hD
    by_cases hz : ds.length ≤ sizeLine
    case neg => rw [if_neg hz] at q; exact q.elim
    rw [if_pos hz] at q
    -- the list at D, apart
    have hD0 : B0 Dp = none := u.bh.free hD
    have ua : Up B0 H0 B0 (upd H0 Dp (.lst [])) := Up.apart u.bh hD
    -- behind i items: some done, the rest to come
    refine ⟨fun i m H' => m = ds.length - i ∧ i ≤ ds.length ∧ ∃ B' acc ws, H' Dp = some (.lst ws) ∧ RepL X.K B' acc ws ∧ acc.length ≤ i ∧ Same B0 B' ∧ Same B' H' ∧ Same H0 H' ∧ (∀ a, H0 a ≠ none → B0 a = none → B' a = none) ∧ B' Dp = none ∧ RS X.K Fo B' H' ρ σ ∧
      NPost X.K W σ B H ((lcD gf gt ge (wipeE ρ vs) (ds.drop i)).bind fun ys => .ok (acc ++ ys)) Q, ⟨ds.length, by simp, Nat.zero_le _, B0, [], [], upd_same, .nil, Nat.le_refl _, Same.refl _, ua.bh, ua.h, fun a h1 h2 => h2, hD0, (rs.up u).up ua, ?_⟩, ?_⟩
    · simp only [List.drop_zero, List.nil_append]
      cases h5 : lcD gf gt ge (wipeE ρ vs) ds with
      | ok ys => rw [h5] at q; exact q
      | er C => rw [h5] at q; exact q
      | no => rw [h5] at q; exact q
    rintro i m H1 ⟨rfl, hi', B1, acc, ws, hDp, hacc, hlen, s1, b1, h1, o1, n1, r1, q1⟩
    by_cases hl : i < ds.length
    · right
      have hd : ds[i]? = some ds[i] := List.getElem?_eq_getElem hl
      refine ⟨(w.go i H1 ds[i] h1 hd).1, _, fun H' hN => ⟨ds.length - (i + 1), by omega, rfl, hN⟩, fun x H2 y => ?_⟩
      obtain ⟨B2, u2, hx⟩ := (w.go i H1 ds[i] h1 hd).2 x H2 B1 y s1 b1
      have r2 := r1.up u2
      have hDp2 : H2 Dp = some (.lst ws) := u2.h _ _ hDp
      have n2 : B2 Dp = none := u2.out Dp (by rw [hDp]; exact fun z => nomatch z) n1
      have rw2 := r2.wiped vs
      rw [List.drop_eq_getElem_cons hl] at q1
      unfold lcD at q1
      cases h3 : gf ds[i] (wipeE ρ vs) with
      | none => rw [h3] at q1; exact q1.elim
      | some ρ2 =>
        rw [h3] at q1
        dsimp only at q1
        refine hg Fo B2 H2 (wipeE ρ vs) (wipe σ vs) ds[i] x ρ2 _ rw2 hx h3 fun σ3 r3 l3 k3 => ⟨?_, ?_⟩
        · have := wipe_eq l3 vs fun j hj => k3 j fun z => hj (hsl j z)
          rw [this, wipe_idem]
        · refine ht Fo B2 H2 ρ2 σ3 _ r3 ?_
          cases h4 : gt ρ2 with
          | no => rw [h4] at q1; exact q1.elim
          | er C => rw [h4] at q1; exact q1.elim
          | ok b =>
            rw [h4] at q1
            intro B3 H3 u3
            have u23 := u2.trans u3
            have o3 : ∀ a, H0 a ≠ none → B0 a = none → B3 a = none := fun a e1 e2 => u23.out a (VL.Same.some h1 e1) (o1 a e1 e2)
            cases b with
            | false =>
              refine iteF ⟨hl, B3, acc, ws, u23.h _ _ hDp, hacc.up u23.b, Nat.le_succ_of_le hlen, s1.trans u23.b, u3.bh, h1.trans u23.h, o3, u3.out Dp (by rw [hDp2]; exact fun z => nomatch z) n2, r2.up u3, q1⟩
            | true =>
              dsimp only at q1
              refine iteT (he Fo B3 H3 ρ2 σ3 _ (r3.up u3) ?_)
              cases h5 : ge ρ2 with
              | no => rw [h5] at q1; exact q1.elim
              | er C => rw [h5] at q1; exact q1.elim
              | ok y0 =>
                rw [h5] at q1
                dsimp only at q1
                intro v B4 H4 u4 hv
                have u24 := u23.trans u4
                have hDp4 : H4 Dp = some (.lst ws) := u24.h _ _ hDp
                have n4 : B4 Dp = none := u24.out Dp (by rw [hDp]; exact fun z => nomatch z) n1
                have hH0 : H0 Dp = none := hD
                have r4 : RS X.K Fo B4 H4 ρ σ := (r2.up u3).up u4
                have wr : ∀ a o, a ≠ Dp → H4 a = some o → upd H4 Dp (.lst (ws ++ [v])) a = some o := fun a o n e => by rw [upd_ne n]; exact e
                have fo : Fo Dp = none := by
                  cases e : Fo Dp with
                  | none => rfl
                  | some o =>
                    have := rs.fh _ _ e
                    have z := u.h _ _ this
                    rw [hH0] at z
                    cases z
                refine ⟨ws, hDp4, ?_, hl, B4, acc ++ [y0], ws ++ [v], upd_same, (hacc.up u24.b).append (.cons hv .nil), ?_, s1.trans u24.b, fun a o e => wr a o (ne_of_none e n4) (u4.bh a o e), fun a o e => wr a o (ne_of_none e hH0) (u24.h _ _ (h1 a o e)),
                  fun a e1 e2 => u24.out a (VL.Same.some h1 e1) (o1 a e1 e2), n4, ?_, ?_⟩
                · rw [← hacc.length]
                  omega
                · rw [List.length_append]
                  exact Nat.add_le_add_right hlen 1
                · refine ⟨r4.len, fun a o e => wr a o (ne_of_none e n4) (r4.bh a o e), fun a o e => wr a o (ne_of_none e fo) (r4.fh a o e), r4.fb, r4.vals, fun j xs hj => ?_, r4.sep⟩
                  obtain ⟨p2, us, a1, a2, a3, a4, a5⟩ := r4.owns j xs hj
                  refine ⟨p2, us, a1, wr _ _ ?_ a2, a3, a4, a5⟩
                  rintro rfl
                  -- the slot's list stood before D was laid
                  obtain ⟨p3, us3, c1, c2, _⟩ := rs.owns j xs hj
                  rw [a1] at c1
                  cases c1
                  have z := u.h _ _ c2
                  rw [hH0] at z
                  cases z
                · cases h6 : lcD gf gt ge (wipeE ρ vs) (List.drop (i + 1) ds) with
                  | no => rw [h6] at q1; exact q1.elim
                  | er C => rw [h6] at q1; exact q1
                  | ok ys =>
                    rw [h6] at q1
                    simp only [R.bind_ok, List.append_assoc, List.singleton_append] at q1 ⊢
                    exact q1
    · left
      have hd : ds[i]? = none := List.getElem?_eq_none_iff.mpr (by omega)
      rw [List.drop_eq_nil_of_le (by omega)] at q1
      unfold lcD at q1
      rw [R.bind_ok, List.append_nil] at q1
      refine ⟨w.stop i H1 h1 hd, ?_⟩
      exact q1 Dp ws B1 H1 ⟨u.b.trans s1, b1, u.h.trans h1, fun a e1 e2 => o1 a (VL.Same.some u.h e1) (u.out a e1 e2)⟩ n1 (u.h.free hD) hDp hacc
theorem vn_lc {elt : Expr} {ifs : List Expr} {scope : Scope} {tt : TT} {te : TE} {gt : En → R Bool} {ge : En → R D} (own : List (Str × Nat)) (hc : X.calm = true) (nd : X.N.Nodup) (hi : VIP X W tg iter wi fi) (ok : BlkOk X.N X.env.scope scope own)
    (hg : ∀ (s : Shared) (H : Hp) (C : Addr) (cl : List (Str × Addr)) (fp : List Addr), VG (X.blk s H scope (compEnvC scope cl C X.env) fp) tg g gf sl)
    (ht : ∀ (s : Shared) (H : Hp) (C : Addr) (cl : List (Str × Addr)) (fp : List Addr), VTs (X.blk s H scope (compEnvC scope cl C X.env) fp) W0 ifs tt gt)
    (he : ∀ (s : Shared) (H : Hp) (C : Addr) (cl : List (Str × Addr)) (fp : List Addr), VE (X.blk s H scope (compEnvC scope cl C X.env) fp) W0 elt te ge)
    (hsl : ∀ j ∈ sl, j ∈ own.map (·.2) := by decide) (hs : ∀ x, foldedSetIterable iter X.env x = pure x := by intro _; rfl) :
    VN X W (.ListComp elt [⟨tg, iter, ifs, 0⟩] scope pos) (tLc wi g tt te (own.map (·.2))) (dLc (own.map (·.2)) fi gf gt ge) :=
  ⟨pe_lc hc nd hi.pi ok (fun s H C cl fp => (hg s H C cl fp).pg) (fun s H C cl fp => (ht s H C cl fp).pe) (fun s H C cl fp => (he s H C cl fp).pe) hs, fun Fo B H ρ σ Q rs q =>
    tLc_ok hi (hg X.s_0 X.H_0 0 [] []).ok hsl (ht X.s_0 X.H_0 0 [] []).ok (he X.s_0 X.H_0 0 [] []).ok rs q⟩
theorem vs_setLc (i : Nat) {y : Str} {py spos : Pos} {elt : Expr} {ifs : List Expr} {scope : Scope} {tt : TT} {te : TE} {gt : En → R Bool} {ge : En → R D} (own : List (Str × Nat)) (hc : X.calm = true) (nd : X.N.Nodup) (hi : VIP X W tg iter wi fi) (ok : BlkOk X.N X.env.scope scope own)
    (hg : ∀ (s : Shared) (H : Hp) (C : Addr) (cl : List (Str × Addr)) (fp : List Addr), VG (X.blk s H scope (compEnvC scope cl C X.env) fp) tg g gf sl)
    (ht : ∀ (s : Shared) (H : Hp) (C : Addr) (cl : List (Str × Addr)) (fp : List Addr), VTs (X.blk s H scope (compEnvC scope cl C X.env) fp) W0 ifs tt gt)
    (he : ∀ (s : Shared) (H : Hp) (C : Addr) (cl : List (Str × Addr)) (fp : List Addr), VE (X.blk s H scope (compEnvC scope cl C X.env) fp) W0 elt te ge)
    (hsw : swapsWith (.ListComp elt [⟨tg, iter, ifs, 0⟩] scope pos) (some (.Name y py)) spos.line X.env = pure true)
    (hy : X.N[i]? = some y := by rfl) (hyl : X.env.scope.names.lookup y = some .local := by rfl)
    (hsl : ∀ j ∈ sl, j ∈ own.map (·.2) := by decide) (hs : ∀ x, foldedSetIterable iter X.env x = pure x := by intro _; rfl) :
    VS X W (.Assign [.Name y py] (.ListComp elt [⟨tg, iter, ifs, 0⟩] scope pos) spos) (tAsg (tLc wi g tt te (own.map (·.2))) (gName i)) (gSetN i (dLc (own.map (·.2)) fi gf gt ge)) :=
  ⟨ps_setLc hc nd hy hyl hsw hi.pi ok (fun s H C cl fp => (hg s H C cl fp).pg) (fun s H C cl fp => (ht s H C cl fp).pe) (fun s H C cl fp => (he s H C cl fp).pe) hs, fun Fo B H ρ σ D rs q => by
    unfold gSetN gLet at q
    refine tLc_ok (W := W) hi (hg X.s_0 X.H_0 0 [] []).ok hsl (ht X.s_0 X.H_0 0 [] []).ok (he X.s_0 X.H_0 0 [] []).ok rs ?_
    cases h : dLc (own.map (·.2)) fi gf gt ge ρ with
    | no => rw [h] at q; exact q
    | er C => rw [h] at q; exact fun B' H' u => q B' H' σ u.b (rs.up u)
    | ok d => rw [h] at q; exact fun p vs B' H' u n1 n2 hp hv => q B' H' _ u.b ((rs.up u).setO i hp hv n1 (rs.fh.free n2) fun j xs _ e1 => new_own rs n2 j xs e1)⟩
end

/-! ### a def's whole -/
def finV : Out → R D
  | .nx _ => .ok .non
  | .rt d => .ok d
  | .rn ds => .ok (.lst ds)
  | .er C _ => .er C
  | _ => .no
def finN : Out → R (List D)
  | .rn ds => .ok ds
  | .er C _ => .er C
  | _ => .no
def startE (n : Nat) (ds : List D) : En := ds.map .v ++ List.replicate (n - ds.length) .un
def fnV (n : Nat) (g : En → Out) : List D → R D := fun ds => finV (g (startE n ds))
def fnN (n : Nat) (g : En → Out) : List D → R (List D) := fun ds => finN (g (startE n ds))
section
variable {P : Program} {w : World} {K : PySem.W.Frag} {mg : Str → Option Value} {base : Heap}
def apart (B H : Hp) : Hp := fun a => if (B a).isSome then none else H a
theorem apart_sub {B H : Hp} : Same (apart B H) H := fun a o e => by
  unfold apart at e
  split at e
  · cases e
  · exact e
theorem apart_b {B H : Hp} : ∀ a, apart B H a ≠ none → B a = none := fun a e => by
  unfold apart at e
  cases h : B a with
  | none => rfl
  | some o => rw [h] at e; exact absurd rfl e
theorem apart_none {B H : Hp} {a : Addr} (h : apart B H a = none) (h2 : B a = none) : H a = none := by
  unfold apart at h
  rw [h2] at h
  exact h
theorem start_rs {B H : Hp} {N : List Str} {ds : List D} {vs : List V} (s : Same B H) (r : RepL K B ds vs) (hl : ds.length ≤ N.length) : RS K (apart B H) B H (startE N.length ds) (L2.start N vs) where
  len := by
    unfold startE L2.start
    simp [r.length]
  bh := s
  fh := apart_sub
  fb := apart_b
  vals := fun i d e => by
    unfold startE at e
    unfold L2.start
    by_cases h : i < ds.length
    · rw [List.getElem?_append_left (by simpa using h), List.getElem?_map] at e
      rw [List.getElem?_append_left (by simp [← r.length]; exact h), List.getElem?_map]
      cases h2 : ds[i]? with
      | none => rw [h2] at e; cases e
      | some d2 =>
        rw [h2] at e
        cases e
        obtain ⟨v, hv, hr⟩ := r.get h2
        rw [hv]
        exact ⟨v, rfl, hr⟩
    · rw [List.getElem?_append_right (by simp; omega), List.getElem?_replicate] at e
      split at e <;> cases e
  owns := fun i d e => by
    unfold startE at e
    by_cases h : i < ds.length
    · rw [List.getElem?_append_left (by simpa using h), List.getElem?_map] at e
      cases h2 : ds[i]? with
      | none => rw [h2] at e; cases e
      | some d2 => rw [h2] at e; cases e
    · rw [List.getElem?_append_right (by simp; omega), List.getElem?_replicate] at e
      split at e <;> cases e
  sep := fun i j p xs ys _ e => by
    unfold startE at e
    by_cases h : i < ds.length
    · rw [List.getElem?_append_left (by simpa using h), List.getElem?_map] at e
      cases h2 : ds[i]? with
      | none => rw [h2] at e; cases e
      | some d2 => rw [h2] at e; cases e
    · rw [List.getElem?_append_right (by simp; omega), List.getElem?_replicate] at e
      split at e <;> cases e
theorem up_of {B H B' H' : Hp} (s0 : Same B H) (s : Same B B') (bh : Same B' H') (fh : Same (apart B H) H') (fb : ∀ a, apart B H a ≠ none → B' a = none) : Up B H B' H' where
  b := s
  bh := bh
  h := fun a o e => by
    cases h : B a with
    | some u =>
      have h2 := s0 a u h
      rw [e] at h2
      cases h2
      exact bh a o (s a o h)
    | none => exact fh a o (by unfold apart; rw [h]; exact e)
  out := fun a e n => fb a (by unfold apart; rw [n]; exact e)
abbrev WF (E : XK) : WX := fun cls d _ H => E cls d H
theorem ctx_of {N : List Str} {qual : Str} {sc : Scope} {f : Addr} {cd : Value} {A : Around} {outer : List Env} {s : Shared} {H : Hp} {E : XK} (hN : N.Nodup) : Ctx (cxOf (L2.CX P w) P w K mg base N qual sc f cd A outer s H E) (WF E) where
  tk := takes_of rfl rfl rfl rfl
  po := passes_of rfl
  calm := rfl
  hs := rfl
  hf := rfl
  nd := hN
theorem fn_ok {x qual : Str} {st : Stmt} {f : Addr} {fd : FuncData} {N ps : List Str} {k : Nat} (n np : Nat) (g : En → Out) (F : Fun K x qual st f fd) (S : FnScope N ps (defScope st)) (hn : N.length = n) (hnp : ps.length = np) (hp : np ≤ n)
    (hb : ∀ (cdv : Value) (A : Around) (outer : List Env) (s : Shared) (H : Hp) (E : XK), Room k (A.deeper (envOfC qual (defScope st) s.heap.objs.size f cdv)) → Ctx (cxOf (L2.CX P w) P w K mg base N qual (defScope st) f cdv A outer s H E) (WF E) →
      ∃ t, VSs (cxOf (L2.CX P w) P w K mg base N qual (defScope st) f cdv A outer s H E) (WF E) (defBody st) t g) : FnOk P w K mg base (L2.CX P w) (k + 1) f fd ps (spV K np (fnV n g)) := by
  subst hn hnp
  refine F.okX S (fun vs H Q E h => ?_) (fun cdv A outer s H vs Q E hr h => ?_)
  · obtain ⟨B, ds, _, r, hl, _⟩ := h
    rw [← r.length, hl]
  · obtain ⟨B, ds, sb, r, hl, q⟩ := h
    obtain ⟨t, V⟩ := hb cdv A outer s H E hr (ctx_of S.nd)
    refine ⟨t, V.ps, V.ok (apart B H) B H (startE N.length ds) _ _ (start_rs sb r (by rw [hl]; exact hp)) ?_⟩
    unfold fnV finV at q
    cases h : g (startE N.length ds) with
    | nx ρ => rw [h] at q; exact fun B' H' σ' s r' => q .non B' H' (up_of sb s r'.bh r'.fh r'.fb) .non
    | bk ρ => rw [h] at q; exact q.elim
    | ct ρ => rw [h] at q; exact q.elim
    | rt d => rw [h] at q; exact fun B' H' v s b f fb hv => q v B' H' (up_of sb s b f fb) hv
    | rn d =>
      rw [h] at q
      intro B' H' p vs' s b f fb n1 n2 hp' hv
      have u := up_of sb s b f fb
      have hn : H p = none := by
        have : B p = none := by
          cases e : B p with
          | none => rfl
          | some o => rw [s p o e] at n1; cases n1
        exact apart_none n2 this
      exact q (.ref p) (upd B' p (.lst vs')) H' (u.share hn hp' n1) (.lst upd_same (hv.up fun a o e => by rw [upd_ne (ne_of_none e n1)]; exact e))
    | er C ρ => rw [h] at q; exact fun B' H' σ' s r' => q B' H' (up_of sb s r'.bh r'.fh r'.fb)
    | no => rw [h] at q; exact q.elim
theorem fn_okN {x qual : Str} {st : Stmt} {f : Addr} {fd : FuncData} {N ps : List Str} {k : Nat} (n np : Nat) (g : En → Out) (F : Fun K x qual st f fd) (S : FnScope N ps (defScope st)) (hn : N.length = n) (hnp : ps.length = np) (hp : np ≤ n)
    (hb : ∀ (cdv : Value) (A : Around) (outer : List Env) (s : Shared) (H : Hp) (E : XK), Room k (A.deeper (envOfC qual (defScope st) s.heap.objs.size f cdv)) → Ctx (cxOf (L2.CX P w) P w K mg base N qual (defScope st) f cdv A outer s H E) (WF E) →
      ∃ t, VSs (cxOf (L2.CX P w) P w K mg base N qual (defScope st) f cdv A outer s H E) (WF E) (defBody st) t g) : FnOk P w K mg base (L2.CX P w) (k + 1) f fd ps (spN K np (fnN n g)) := by
  subst hn hnp
  refine F.okX S (fun vs H Q E h => ?_) (fun cdv A outer s H vs Q E hr h => ?_)
  · obtain ⟨B, ds, _, r, hl, _⟩ := h
    rw [← r.length, hl]
  · obtain ⟨B, ds, sb, r, hl, q⟩ := h
    obtain ⟨t, V⟩ := hb cdv A outer s H E hr (ctx_of S.nd)
    refine ⟨t, V.ps, V.ok (apart B H) B H (startE N.length ds) _ _ (start_rs sb r (by rw [hl]; exact hp)) ?_⟩
    unfold fnN finN at q
    cases h : g (startE N.length ds) with
    | nx ρ => rw [h] at q; exact q.elim
    | bk ρ => rw [h] at q; exact q.elim
    | ct ρ => rw [h] at q; exact q.elim
    | rt d => rw [h] at q; exact q.elim
    | rn d =>
      rw [h] at q
      intro B' H' p vs' s b f fb n1 n2 hp' hv
      have u := up_of sb s b f fb
      have hn : H p = none := by
        have : B p = none := by
          cases e : B p with
          | none => rfl
          | some o => rw [s p o e] at n1; cases n1
        exact apart_none n2 this
      exact q p vs' B' H' u n1 hn hp' hv
    | er C ρ => rw [h] at q; exact fun B' H' σ' s r' => q B' H' (up_of sb s r'.bh r'.fh r'.fb)
    | no => rw [h] at q; exact q.elim
end
end VL
set_option maxRecDepth 100000
set_option maxHeartbeats 4000000
namespace VL
open PySem PySem.Spec PyProof.Rows L2

section
variable {K : PySem.W.Frag} {B H : Hp}
theorem repT_int {i : Int} {v : V} (h : RepT K B H (.int i) v) : v = .int i := by
  rcases h with h | ⟨_, _, _, e, _⟩
  · cases h; rfl
  · cases e
theorem repT_bl {i : Bool} {v : V} (h : RepT K B H (.bl i) v) : v = .bl i := by
  rcases h with h | ⟨_, _, _, e, _⟩
  · cases h; rfl
  · cases e
theorem repT_str {i : Str} {v : V} (h : RepT K B H (.str i) v) : v = .str i := by
  rcases h with h | ⟨_, _, _, e, _⟩
  · cases h; rfl
  · cases e
theorem repT_non {v : V} (h : RepT K B H .non v) : v = .non := by
  rcases h with h | ⟨_, _, _, e, _⟩
  · cases h; rfl
  · cases e
theorem repT_ty {n : String} {v : V} (h : RepT K B H (.ty n) v) : v = .ty n := by
  rcases h with h | ⟨_, _, _, e, _⟩
  · cases h; rfl
  · cases e
theorem repT_ref {n : Addr} {v : V} (h : RepT K B H (.ref n) v) : v = .ref n := by
  rcases h with h | ⟨_, _, _, e, _⟩
  · cases h; rfl
  · cases e
theorem repT_tup {xs : List D} {v : V} (s : Same B H) (h : RepT K B H (.tup xs) v) : ∃ a vs, v = .ref a ∧ H a = some (.tup vs) ∧ RepL K B xs vs := by
  rcases h with h | ⟨_, _, _, e, _⟩
  · cases h with
    | tup h1 h2 => exact ⟨_, _, rfl, s _ _ h1, h2⟩
  · cases e
theorem repT_ct {xs : List D} {v : V} (s : Same B H) (h : RepT K B H (.ct xs) v) : ∃ a vs, v = .ref a ∧ SqT K H a vs ∧ RepL K B xs vs := by
  rcases h with h | ⟨_, _, _, e, _⟩
  · cases h with
    | ct h1 h2 => exact ⟨_, _, rfl, VL.SqT.up s h1, h2⟩
  · cases e
theorem repT_ro {xs : List D} {v : V} (s : Same B H) (h : RepT K B H (.ro xs) v) : ∃ a vs, v = .ref a ∧ SqL K H a vs ∧ RepL K B xs vs := by
  rcases h with h | ⟨_, _, _, e, _⟩
  · cases h with
    | ro h1 h2 => exact ⟨_, _, rfl, s.seq h1, h2⟩
  · cases e
/-- the items of anything listed -/
def items : D → Option (List D)
  | .lst xs => some xs
  | .ro xs => some xs
  | .tup xs => some xs
  | .ct xs => some xs
  | _ => none
theorem repT_items {d : D} {xs : List D} {v : V} (s : Same B H) (h : RepT K B H d v) (e : items d = some xs) : ∃ a vs, v = .ref a ∧ (SqL K H a vs ∨ SqT K H a vs) ∧ RepL K B xs vs := by
  cases d <;> simp only [items, Option.some.injEq] at e <;> try cases e
  · obtain ⟨a, vs, h1, h2, h3⟩ := repT_lst s h
    exact ⟨a, vs, h1, .inl (SqL.of h2), h3⟩
  · obtain ⟨a, vs, h1, h2, h3⟩ := repT_tup s h
    exact ⟨a, vs, h1, .inr (SqT.of h2), h3⟩
  · obtain ⟨a, vs, h1, h2, h3⟩ := repT_ro s h
    exact ⟨a, vs, h1, .inl h2, h3⟩
  · obtain ⟨a, vs, h1, h2, h3⟩ := repT_ct s h
    exact ⟨a, vs, h1, .inr h2, h3⟩

/-! ### ints -/
def gI (C : Int → Int → Prop) [∀ i j, Decidable (C i j)] (g : Int → Int → Int) : D → D → Option D := fun x y => match x, y with
  | .int i, .int j => if C i j then some (.int (g i j)) else none
  | _, _ => none
def gI0 (g : Int → Int → D) : D → D → Option D := fun x y => match x, y with
  | .int i, .int j => some (g i j)
  | _, _ => none
theorem gI_ok {C : Int → Int → Prop} [∀ i j, Decidable (C i j)] {g : Int → Int → Int} : R2Ok K (rI C fun i j => .int (g i j)) (gI C g) := fun B H x y v w Q d s hx hy e q => by
  unfold gI at e
  split at e
  · rename_i i j
    by_cases hc : C i j
    · rw [if_pos hc] at e
      cases e
      exact ⟨i, j, repT_int hx, repT_int hy, hc, q _ B H (Up.refl s) (.int _)⟩
    · rw [if_neg hc] at e
      cases e
  · cases e
theorem gI0_int {g : Int → Int → Int} : R2Ok K (rI0 fun i j => .int (g i j)) (gI0 fun i j => .int (g i j)) := fun B H x y v w Q d s hx hy e q => by
  unfold gI0 at e
  split at e
  · rename_i i j
    cases e
    exact ⟨i, j, repT_int hx, repT_int hy, q _ B H (Up.refl s) (.int _)⟩
  · cases e
theorem gI0_bl {g : Int → Int → Bool} : R2Ok K (rI0 fun i j => .bl (g i j)) (gI0 fun i j => .bl (g i j)) := fun B H x y v w Q d s hx hy e q => by
  unfold gI0 at e
  split at e
  · rename_i i j
    cases e
    exact ⟨i, j, repT_int hx, repT_int hy, q _ B H (Up.refl s) (.bl _)⟩
  · cases e

/-! ### + : ints, lists, texts -/
def rAddU : R2 := fun x y H Q => (rI0 fun i j => .int (i + j)) x y H Q ∨ rCat x y H Q ∨ (fun x y H Q => ∃ i j, x = .str i ∧ y = .str j ∧ i.length + j.length ≤ sizeLine ∧ Q (.str (i ++ j)) H : R2) x y H Q
theorem op_addU {X : Cx} : OpR X (binaryOp .Add) rAddU := op_add.or (op_cat.or op_add_str)
def gAdd : D → D → Option D := fun x y => match x, y with
  | .int i, .int j => some (.int (i + j))
  | .lst xs, .lst ys => if xs.length + ys.length ≤ sizeLine then some (.lst (xs ++ ys)) else none
  | .str s, .str t => if s.length + t.length ≤ sizeLine then some (.str (s ++ t)) else none
  | _, _ => none
theorem gAdd_ok : R2Ok K rAddU gAdd := fun B H x y v w Q d s hx hy e q => by
  unfold gAdd at e
  split at e
  · rename_i i j
    cases e
    exact .inl ⟨i, j, repT_int hx, repT_int hy, q _ B H (Up.refl s) (.int _)⟩
  · rename_i xs ys
    by_cases hl : xs.length + ys.length ≤ sizeLine
    · rw [if_pos hl] at e
      cases e
      obtain ⟨a, vs, rfl, h1, h2⟩ := repT_lst s hx
      obtain ⟨b, ws, rfl, h3, h4⟩ := repT_lst s hy
      refine .inr (.inl ⟨a, b, vs, ws, rfl, rfl, h1, h3, by rw [← h2.length, ← h4.length]; exact hl, fun p hp => ?_⟩)
      have u := Up.new (o := .lst (vs ++ ws)) s hp
      exact q _ _ _ u (.lst upd_same ((h2.append h4).up u.b))
    · rw [if_neg hl] at e
      cases e
  · rename_i a b
    by_cases hl : a.length + b.length ≤ sizeLine
    · rw [if_pos hl] at e
      cases e
      exact .inr (.inr ⟨a, b, repT_str hx, repT_str hy, hl, q _ B H (Up.refl s) (.str _)⟩)
    · rw [if_neg hl] at e
      cases e
  · cases e
def gCat : D → D → Option (List D) := fun x y => match x, y with
  | .lst xs, .lst ys => if xs.length + ys.length ≤ sizeLine then some (xs ++ ys) else none
  | _, _ => none
theorem gCat_ok : R2N K rCat gCat := fun B H x y v w Q d s hx hy e q => by
  unfold gCat at e
  split at e
  · rename_i xs ys
    by_cases hl : xs.length + ys.length ≤ sizeLine
    · rw [if_pos hl] at e
      cases e
      obtain ⟨a, vs, rfl, h1, h2⟩ := repT_lst s hx
      obtain ⟨b, ws, rfl, h3, h4⟩ := repT_lst s hy
      refine ⟨a, b, vs, ws, rfl, rfl, h1, h3, by rw [← h2.length, ← h4.length]; exact hl, fun p hp => ?_⟩
      exact q p _ B _ (Up.apart s hp) (s.free hp) hp upd_same (h2.append h4)
    · rw [if_neg hl] at e
      cases e
  · cases e
/-! ### * : ints, a list by an int -/
def CMulU (i j : Int) : Prop := ((-(2 ^ 64) < i ∧ i < 2 ^ 64) ∨ (-(2 ^ 64) < j ∧ j < 2 ^ 64)) ∨ i.natAbs.log2 + j.natAbs.log2 < 1000000
instance : ∀ i j, Decidable (CMulU i j) := fun i j => by unfold CMulU; infer_instance
theorem op_mulU' {X : Cx} : OpR X (binaryOp .Mult) (rI CMulU fun i j => .int (i * j)) := fun pins s σ H x y v u Q I rx ry h => by
  obtain ⟨i, j, e1, e2, hc, q⟩ := h
  rcases hc with hc | hc
  · exact op_mul pins s σ H x y v u Q I rx ry ⟨i, j, e1, e2, hc, q⟩
  · exact op_mulW pins s σ H x y v u Q I rx ry ⟨i, j, e1, e2, hc, q⟩
def rMulU : R2 := fun x y H Q => (rI CMulU fun i j => .int (i * j)) x y H Q ∨ rRep x y H Q
theorem op_mulU {X : Cx} : OpR X (binaryOp .Mult) rMulU := op_mulU'.or op_rep
def gMul : D → D → Option D := fun x y => match x, y with
  | .int i, .int j => if CMulU i j then some (.int (i * j)) else none
  | .lst xs, .int k => if -(2 ^ 63) ≤ k ∧ k < 2 ^ 63 ∧ xs.length * k.toNat ≤ sizeLine then some (.lst (List.replicate k.toNat xs).flatten) else none
  | _, _ => none
theorem gMul_ok : R2Ok K rMulU gMul := fun B H x y v w Q d s hx hy e q => by
  unfold gMul at e
  split at e
  · rename_i i j
    by_cases hc : CMulU i j
    · rw [if_pos hc] at e
      cases e
      exact .inl ⟨i, j, repT_int hx, repT_int hy, hc, q _ B H (Up.refl s) (.int _)⟩
    · rw [if_neg hc] at e
      cases e
  · rename_i xs k
    by_cases hl : -(2 ^ 63) ≤ k ∧ k < 2 ^ 63 ∧ xs.length * k.toNat ≤ sizeLine
    · rw [if_pos hl] at e
      cases e
      obtain ⟨a, vs, rfl, h1, h2⟩ := repT_lst s hx
      refine .inr ⟨a, k, vs, rfl, repT_int hy, h1, hl.1, hl.2.1, by rw [← h2.length]; exact hl.2.2, fun p hp => ?_⟩
      have u := Up.new (o := .lst (List.replicate k.toNat vs).flatten) s hp
      exact q _ _ _ u (.lst upd_same ((h2.rep _).up u.b))
    · rw [if_neg hl] at e
      cases e
  · cases e
def gRepN : D → D → Option (List D) := fun x y => match x, y with
  | .lst xs, .int k => if -(2 ^ 63) ≤ k ∧ k < 2 ^ 63 ∧ xs.length * k.toNat ≤ sizeLine then some (List.replicate k.toNat xs).flatten else none
  | _, _ => none
theorem gRepN_ok : R2N K rRep gRepN := fun B H x y v w Q d s hx hy e q => by
  unfold gRepN at e
  split at e
  · rename_i xs k
    by_cases hl : -(2 ^ 63) ≤ k ∧ k < 2 ^ 63 ∧ xs.length * k.toNat ≤ sizeLine
    · rw [if_pos hl] at e
      cases e
      obtain ⟨a, vs, rfl, h1, h2⟩ := repT_lst s hx
      refine ⟨a, k, vs, rfl, repT_int hy, h1, hl.1, hl.2.1, by rw [← h2.length]; exact hl.2.2, fun p hp => ?_⟩
      exact q p _ B _ (Up.apart s hp) (s.free hp) hp upd_same (h2.rep _)
    · rw [if_neg hl] at e
      cases e
  · cases e
/-! ### the other operators of ints -/
instance : ∀ i j, Decidable (CDivW i j) := fun i j => by unfold CDivW; infer_instance
instance : ∀ i j, Decidable (CPow i j) := fun i j => by unfold CPow; infer_instance
def gSub := gI0 fun i j => .int (i - j)
def gFDiv := gI CDivW fun i j => i / j
def gMod := gI (fun _ j => 0 < j) fun i j => i % j
def gPow := gI CPow fun i j => i ^ j.toNat
def gShl := gI CPow fun i j => i * 2 ^ j.toNat
def gShr := gI (fun _ j => 0 ≤ j) fun i j => i / 2 ^ j.toNat
def gAnd := gI0 fun i j => .int (Builtin.bitAnd i j)
def gOr := gI0 fun i j => .int (Builtin.bitOr i j)
def gXor := gI0 fun i j => .int (Builtin.bitXor i j)
abbrev rSubI : R2 := rI0 fun i j => .int (i - j)
abbrev rFDivI : R2 := rI CDivW fun i j => .int (i / j)
abbrev rModI : R2 := rI (fun _ j => 0 < j) fun i j => .int (i % j)
abbrev rPowI : R2 := rI CPow fun i j => .int (i ^ j.toNat)
abbrev rShlI : R2 := rI CPow fun i j => .int (i * 2 ^ j.toNat)
abbrev rShrI : R2 := rI (fun _ j => 0 ≤ j) fun i j => .int (i / 2 ^ j.toNat)
abbrev rAndI : R2 := rI0 fun i j => .int (Builtin.bitAnd i j)
abbrev rOrI : R2 := rI0 fun i j => .int (Builtin.bitOr i j)
abbrev rXorI : R2 := rI0 fun i j => .int (Builtin.bitXor i j)
def gLt := gI0 fun i j => .bl (decide (i < j))
def gLe := gI0 fun i j => .bl (decide (i ≤ j))
def gGt := gI0 fun i j => .bl (decide (j < i))
def gGe := gI0 fun i j => .bl (decide (j ≤ i))
section
variable {X : Cx} {W : WX} {a b : Expr} {ta tb : TE} {fa fb : En → R D} {pos : Pos}
theorem ve_add (ha : VP X W a ta fa) (hb : VP X W b tb fb) : VE X W (.BinOp a .Add b pos) (tOp rAddU ta tb) (dBin gAdd fa fb) := ve_op op_addU gAdd_ok ha hb
theorem vn_cat (ha : VP X W a ta fa) (hb : VP X W b tb fb) : VN X W (.BinOp a .Add b pos) (tOp rCat ta tb) (dBinN gCat fa fb) := vn_op op_cat gCat_ok ha hb
theorem ve_mul (ha : VP X W a ta fa) (hb : VP X W b tb fb) : VE X W (.BinOp a .Mult b pos) (tOp rMulU ta tb) (dBin gMul fa fb) := ve_op op_mulU gMul_ok ha hb
theorem vn_rep (ha : VP X W a ta fa) (hb : VP X W b tb fb) : VN X W (.BinOp a .Mult b pos) (tOp rRep ta tb) (dBinN gRepN fa fb) := vn_op op_rep gRepN_ok ha hb
theorem ve_sub (ha : VP X W a ta fa) (hb : VP X W b tb fb) : VE X W (.BinOp a .Sub b pos) (tOp rSubI ta tb) (dBin gSub fa fb) := ve_op op_sub gI0_int ha hb
theorem ve_fdiv (ha : VP X W a ta fa) (hb : VP X W b tb fb) : VE X W (.BinOp a .FloorDiv b pos) (tOp rFDivI ta tb) (dBin gFDiv fa fb) := ve_op op_fdivW gI_ok ha hb
theorem ve_mod (ha : VP X W a ta fa) (hb : VP X W b tb fb) : VE X W (.BinOp a .Mod b pos) (tOp rModI ta tb) (dBin gMod fa fb) := ve_op op_mod gI_ok ha hb
theorem ve_pow (ha : VP X W a ta fa) (hb : VP X W b tb fb) : VE X W (.BinOp a .Pow b pos) (tOp rPowI ta tb) (dBin gPow fa fb) := ve_op op_pow gI_ok ha hb
theorem ve_shl (ha : VP X W a ta fa) (hb : VP X W b tb fb) : VE X W (.BinOp a .LShift b pos) (tOp rShlI ta tb) (dBin gShl fa fb) := ve_op op_shl gI_ok ha hb
theorem ve_shr (ha : VP X W a ta fa) (hb : VP X W b tb fb) : VE X W (.BinOp a .RShift b pos) (tOp rShrI ta tb) (dBin gShr fa fb) := ve_op op_shr gI_ok ha hb
theorem ve_band (ha : VP X W a ta fa) (hb : VP X W b tb fb) : VE X W (.BinOp a .BitAnd b pos) (tOp rAndI ta tb) (dBin gAnd fa fb) := ve_op op_and gI0_int ha hb
theorem ve_bor (ha : VP X W a ta fa) (hb : VP X W b tb fb) : VE X W (.BinOp a .BitOr b pos) (tOp rOrI ta tb) (dBin gOr fa fb) := ve_op op_or gI0_int ha hb
theorem ve_bxor (ha : VP X W a ta fa) (hb : VP X W b tb fb) : VE X W (.BinOp a .BitXor b pos) (tOp rXorI ta tb) (dBin gXor fa fb) := ve_op op_xor gI0_int ha hb
end
def gNeg : D → Option D := fun x => match x with
  | .int i => some (.int (-i))
  | _ => none
def gInv : D → Option D := fun x => match x with
  | .int i => some (.int (Builtin.bitNot i))
  | _ => none
theorem gNeg_ok : R1Ok K (rU fun i => .int (-i)) gNeg := fun B H x v Q d s hx e q => by
  unfold gNeg at e
  split at e
  · cases e; exact ⟨_, repT_int hx, q _ B H (Up.refl s) (.int _)⟩
  · cases e
theorem gInv_ok : R1Ok K (rU fun i => .int (Builtin.bitNot i)) gInv := fun B H x v Q d s hx e q => by
  unfold gInv at e
  split at e
  · cases e; exact ⟨_, repT_int hx, q _ B H (Up.refl s) (.int _)⟩
  · cases e

/-! ### == -/
mutual
def toPD : D → Option PyData
  | .non => some .none
  | .bl b => some (.bool b)
  | .int i => some (.int i)
  | .str s => some (.str s)
  | .lst xs => (toPDL xs).map .list
  | .ro xs => (toPDL xs).map .list
  | .tup xs => (toPDL xs).map .tuple
  | .ct xs => (toPDL xs).map .tuple
  | _ => none
def toPDL : List D → Option (List PyData)
  | [] => some []
  | d :: ds => match toPD d, toPDL ds with
    | some p, some ps => some (p :: ps)
    | _, _ => none
end
mutual
theorem dp_of (s : Same B H) : ∀ {d : D} {v : V} {p : PyData}, Rep K B d v → toPD d = some p → Dp K H v p
  | _, _, _, .non, e => by simp [toPD] at e; subst e; exact .non
  | _, _, _, .bl b, e => by simp [toPD] at e; subst e; exact .bl b
  | _, _, _, .int i, e => by simp [toPD] at e; subst e; exact .int i
  | _, _, _, .str x, e => by simp [toPD] at e; subst e; exact .str x
  | _, _, _, .ref _, e => by simp [toPD] at e
  | _, _, _, .ty _, e => by simp [toPD] at e
  | _, _, _, .obj _ _, e => by simp [toPD] at e
  | _, _, _, .lst h r, e => by
    simp only [toPD, Option.map_eq_some_iff] at e
    obtain ⟨ps, h1, rfl⟩ := e
    exact .lst (SqL.of (s _ _ h)) (dpl_of s r h1)
  | _, _, _, .ro h r, e => by
    simp only [toPD, Option.map_eq_some_iff] at e
    obtain ⟨ps, h1, rfl⟩ := e
    exact .lst (s.seq h) (dpl_of s r h1)
  | _, _, _, .tup h r, e => by
    simp only [toPD, Option.map_eq_some_iff] at e
    obtain ⟨ps, h1, rfl⟩ := e
    exact .tup (SqT.of (s _ _ h)) (dpl_of s r h1)
  | _, _, _, .ct h r, e => by
    simp only [toPD, Option.map_eq_some_iff] at e
    obtain ⟨ps, h1, rfl⟩ := e
    exact .tup (VL.SqT.up s h) (dpl_of s r h1)
theorem dpl_of (s : Same B H) : ∀ {ds : List D} {vs : List V} {ps : List PyData}, RepL K B ds vs → toPDL ds = some ps → DpAll K H vs ps
  | _, _, _, .nil, e => by simp [toPDL] at e; subst e; exact .nil
  | _, _, _, .cons (d := d) (ds := ds) h r, e => by
    unfold toPDL at e
    cases h1 : toPD d with
    | none => rw [h1] at e; cases e
    | some p =>
      cases h2 : toPDL ds with
      | none => rw [h1, h2] at e; cases e
      | some qs =>
        rw [h1, h2] at e
        cases e
        exact .cons (dp_of s h h1) (dpl_of s r h2)
end
theorem dpT_of (s : Same B H) {d : D} {v : V} {p : PyData} (h : RepT K B H d v) (e : toPD d = some p) : Dp K H v p := by
  rcases h with h | ⟨xs, q, vs, rfl, rfl, a1, a2⟩
  · exact dp_of s h e
  · simp only [toPD, Option.map_eq_some_iff] at e
    obtain ⟨ps, h1, rfl⟩ := e
    exact .lst (SqL.of a1) (dpl_of s a2 h1)
def eqD (x y : D) : Option Bool := match toPD x, toPD y with
  | some p, some q => if SeqAt.shaped p = true ∧ SeqAt.shaped q = true then some (PyData.eqv p q) else none
  | _, _ => none
def gEq : D → D → Option D := fun x y => (eqD x y).map .bl
def gNe : D → D → Option D := fun x y => (eqD x y).map fun b => .bl (!b)
theorem eqD_inv {x y : D} {b : Bool} (h : eqD x y = some b) : ∃ p q, toPD x = some p ∧ toPD y = some q ∧ SeqAt.shaped p = true ∧ SeqAt.shaped q = true ∧ PyData.eqv p q = b := by
  unfold eqD at h
  cases h1 : toPD x with
  | none => rw [h1] at h; cases h
  | some p =>
    cases h2 : toPD y with
    | none => rw [h1, h2] at h; cases h
    | some q =>
      rw [h1, h2] at h
      dsimp only at h
      by_cases hs : SeqAt.shaped p = true ∧ SeqAt.shaped q = true
      · rw [if_pos hs] at h
        cases h
        exact ⟨p, q, rfl, rfl, hs.1, hs.2, rfl⟩
      · rw [if_neg hs] at h
        cases h
theorem gEq_ok : R2Ok K (rEqD K) gEq := fun B H x y v w Q d s hx hy e q => by
  unfold gEq at e
  obtain ⟨b, h1, rfl⟩ := Option.map_eq_some_iff.mp e
  obtain ⟨p, p', e1, e2, s1, s2, rfl⟩ := eqD_inv h1
  exact ⟨p, p', dpT_of s hx e1, dpT_of s hy e2, s1, s2, q _ B H (Up.refl s) (.bl _)⟩
theorem gNe_ok : R2Ok K (rNeD K) gNe := fun B H x y v w Q d s hx hy e q => by
  unfold gNe at e
  obtain ⟨b, h1, rfl⟩ := Option.map_eq_some_iff.mp e
  obtain ⟨p, p', e1, e2, s1, s2, rfl⟩ := eqD_inv h1
  exact ⟨p, p', dpT_of s hx e1, dpT_of s hy e2, s1, s2, q _ B H (Up.refl s) (.bl _)⟩
/-! ### is None -/
def isNonD : D → Bool
  | .non => true
  | _ => false
def gIsN : D → D → Option D := fun x y => match y with
  | .non => some (.bl (isNonD x))
  | _ => none
def gNotN : D → D → Option D := fun x y => match y with
  | .non => some (.bl (!isNonD x))
  | _ => none
theorem isnon_of {d : D} {v : V} (h : RepT K B H d v) : decide (v = .non) = isNonD d := by
  rcases h with h | ⟨xs, p, vs, rfl, rfl, _, _⟩
  · cases h <;> rfl
  · rfl
theorem gIsN_ok : R2Ok K (fun x y H Q => y = .non ∧ Q (.bl (decide (x = .non))) H) gIsN := fun B H x y v w Q d s hx hy e q => by
  unfold gIsN at e
  split at e
  · cases e
    refine ⟨repT_non hy, ?_⟩
    rw [isnon_of hx]
    exact q _ B H (Up.refl s) (.bl _)
  · cases e
theorem gNotN_ok : R2Ok K (fun x y H Q => y = .non ∧ Q (.bl (!decide (x = .non))) H) gNotN := fun B H x y v w Q d s hx hy e q => by
  unfold gNotN at e
  split at e
  · cases e
    refine ⟨repT_non hy, ?_⟩
    rw [isnon_of hx]
    exact q _ B H (Up.refl s) (.bl _)
  · cases e

/-! ### in, not in (flat items) -/
def fV : D → Option V
  | .non => some .non
  | .bl b => some (.bl b)
  | .int i => some (.int i)
  | .str s => some (.str s)
  | _ => none
theorem fV_rep {d : D} {v w : V} (h : RepT K B H d v) (e : fV d = some w) : v = w := by
  cases d <;> simp only [fV, Option.some.injEq] at e <;> try cases e
  · exact repT_non h
  · exact repT_bl h
  · exact repT_int h
  · exact repT_str h
def fVs : List D → Option (List V)
  | [] => some []
  | d :: ds => match fV d, fVs ds with
    | some v, some vs => some (v :: vs)
    | _, _ => none
theorem fVs_rep : ∀ {ds : List D} {vs ws : List V}, RepL K B ds vs → fVs ds = some ws → vs = ws
  | [], _, _, .nil, e => by cases e; rfl
  | d :: ds, _, ws, .cons h r, e => by
    unfold fVs at e
    cases h1 : fV d with
    | none => rw [h1] at e; cases e
    | some v =>
      cases h2 : fVs ds with
      | none => rw [h1, h2] at e; cases e
      | some us =>
        rw [h1, h2] at e
        cases e
        rw [fV_rep (H := B) (.of h) h1, fVs_rep r h2]
def inD (x y : D) : Option Bool := match fV x, items y with
  | some v, some ds => (match fVs ds with
    | some vs => if flatV v = true ∧ vs.all flatV = true then some (inV v vs) else none
    | none => none)
  | _, _ => none
theorem inD_ok {x y : D} {v w : V} {b : Bool} (s : Same B H) (hx : RepT K B H x v) (hy : RepT K B H y w) (e : inD x y = some b) : ∃ p xs, w = .ref p ∧ (SqL K H p xs ∨ SqT K H p xs) ∧ flatV v = true ∧ xs.all flatV = true ∧ inV v xs = b := by
  unfold inD at e
  cases h1 : fV x with
  | none => rw [h1] at e; cases e
  | some v0 =>
    cases h2 : items y with
    | none => rw [h1, h2] at e; cases e
    | some ds =>
      rw [h1, h2] at e
      dsimp only at e
      cases h3 : fVs ds with
      | none => rw [h3] at e; cases e
      | some vs =>
        rw [h3] at e
        dsimp only at e
        by_cases hc : flatV v0 = true ∧ vs.all flatV = true
        · rw [if_pos hc] at e
          cases e
          obtain ⟨a, us, rfl, hs, hr⟩ := repT_items s hy h2
          have e1 := fV_rep hx h1
          have e2 := fVs_rep hr h3
          subst e1 e2
          exact ⟨a, _, rfl, hs, hc.1, hc.2, rfl⟩
        · rw [if_neg hc] at e
          cases e
def gIn : D → D → Option D := fun x y => (inD x y).map .bl
def gNin : D → D → Option D := fun x y => (inD x y).map fun b => .bl (!b)
theorem gIn_ok : R2Ok K (rIn K false) gIn := fun B H x y v w Q d s hx hy e q => by
  unfold gIn at e
  obtain ⟨b, h1, rfl⟩ := Option.map_eq_some_iff.mp e
  obtain ⟨p, xs, rfl, h2, h3, h4, rfl⟩ := inD_ok s hx hy h1
  exact ⟨p, xs, rfl, h2, h3, h4, q _ B H (Up.refl s) (.bl _)⟩
theorem gNin_ok : R2Ok K (rIn K true) gNin := fun B H x y v w Q d s hx hy e q => by
  unfold gNin at e
  obtain ⟨b, h1, rfl⟩ := Option.map_eq_some_iff.mp e
  obtain ⟨p, xs, rfl, h2, h3, h4, rfl⟩ := inD_ok s hx hy h1
  exact ⟨p, xs, rfl, h2, h3, h4, q _ B H (Up.refl s) (.bl _)⟩

/-! ### subscripts -/
theorem atI_map {xs : List D} {vs : List V} (r : RepL K B xs vs) {i : Int} {d : D} (e : atI xs i = some d) : ∃ v, atI vs i = some v ∧ Rep K B d v := by
  unfold atI at e ⊢
  rw [← r.length]
  cases h : ixN xs.length i with
  | none => rw [h] at e; cases e
  | some j =>
    rw [h] at e
    obtain ⟨v, h1, h2⟩ := r.get (show xs[j]? = some d from e)
    exact ⟨v, h1, h2⟩
def gIx : D → D → Option D := fun x y => match y with
  | .int i => (match x with
    | .str z => if z.length ≤ sizeLine then (atI z.cps.toList i).map fun c => .str ⟨#[c]⟩ else none
    | _ => (items x).bind fun xs => atI xs i)
  | _ => none
theorem gIx_ok : R2Ok K (rIx K) gIx := fun B H x y v w Q d s hx hy e q => by
  unfold gIx at e
  split at e
  · rename_i i
    have hw := repT_int hy
    subst hw
    split at e
    · rename_i z
      by_cases hz : z.length ≤ sizeLine
      · rw [if_pos hz] at e
        obtain ⟨c, h1, rfl⟩ := Option.map_eq_some_iff.mp e
        exact .inr (.inr ⟨z, i, c, repT_str hx, rfl, hz, h1, q _ B H (Up.refl s) (.str _)⟩)
      · rw [if_neg hz] at e
        cases e
    · cases h1 : items x with
      | none => rw [h1] at e; cases e
      | some xs =>
        rw [h1] at e
        obtain ⟨a, vs, rfl, hs, hr⟩ := repT_items s hx h1
        obtain ⟨v, h2, h3⟩ := atI_map hr (show atI xs i = some d from e)
        rcases hs with hs | hs
        · exact .inl ⟨a, vs, i, v, rfl, rfl, hs, h2, q _ B H (Up.refl s) h3⟩
        · exact .inr (.inl ⟨a, vs, i, v, rfl, rfl, hs, h2, q _ B H (Up.refl s) h3⟩)
  · cases e

/-! ### built-ins -/
theorem repTL_inv1 {ds : List D} {vs : List V} (h : RepTL K B H ds vs) {d : D} (e : ds = [d]) : ∃ v, vs = [v] ∧ RepT K B H d v := by subst e; exact repTL_1 h
def gLen : List D → Option D := fun ds => match ds with
  | [d] => (match d with
    | .str s => if s.length ≤ sizeLine then some (.int s.length) else none
    | _ => (items d).map fun xs => .int xs.length)
  | _ => none
theorem gLen_ok {X : Cx} : CBOk X.K (fun xs H Q => ∃ x n, xs = [x] ∧ LenV X.K x H n ∧ Q (.int n) H) gLen := fun B H ds vs Q d s hr e q => by
  unfold gLen at e
  split at e
  · obtain ⟨v, rfl, hv⟩ := repTL_1 hr
    split at e
    · rename_i z
      by_cases hz : z.length ≤ sizeLine
      · rw [if_pos hz] at e
        cases e
        cases repT_str hv
        exact ⟨_, z.length, rfl, ⟨hz, rfl⟩, q _ B H (Up.refl s) (.int _)⟩
      · rw [if_neg hz] at e
        cases e
    · obtain ⟨xs, h1, rfl⟩ := Option.map_eq_some_iff.mp e
      obtain ⟨a, us, rfl, hs, hl⟩ := repT_items s hv h1
      refine ⟨_, xs.length, rfl, ?_, q _ B H (Up.refl s) (.int _)⟩
      rcases hs with hs | hs
      · exact .inl ⟨us, hs, hl.length⟩
      · exact .inr ⟨us, hs, hl.length⟩
  · cases e
def gList : List D → Option (List D) := fun ds => match ds with
  | [d] => items d
  | _ => none
theorem gList_ok {X : Cx} : CBN X.K (fun xs H Q => ∃ p ys, xs = [.ref p] ∧ (SqL X.K H p ys ∨ SqT X.K H p ys) ∧ ∀ l, H l = none → Q (.ref l) (upd H l (.lst ys))) gList := fun B H ds vs Q d s hr e q => by
  unfold gList at e
  split at e
  · obtain ⟨v, rfl, hv⟩ := repTL_1 hr
    obtain ⟨a, us, rfl, hs, hl⟩ := repT_items s hv e
    exact ⟨a, us, rfl, hs, fun l hL => q l us B _ (Up.apart s hL) (s.free hL) hL upd_same hl⟩
  · cases e
def gTuple : List D → Option D := fun ds => match ds with
  | [.lst xs] => some (.tup xs)
  | [.ro xs] => some (.tup xs)
  | [.tup xs] => some (.tup xs)
  | [.ct xs] => some (.ct xs)
  | _ => none
theorem gTuple_ok {X : Cx} : CBOk X.K (fun xs H Q => ∃ p ys, xs = [.ref p] ∧ ((SqL X.K H p ys ∧ ∀ l, H l = none → Q (.ref l) (upd H l (.tup ys))) ∨ (SqT X.K H p ys ∧ Q (.ref p) H))) gTuple := fun B H ds vs Q d s hr e q => by
  have new : ∀ {a : Addr} {us : List V} {xs : List D}, SqL X.K H a us → RepL X.K B xs us → (∀ z B' H', Up B H B' H' → Rep X.K B' (.tup xs) z → Q z H') → ∃ p ys, [V.ref a] = [V.ref p] ∧ ((SqL X.K H p ys ∧ ∀ l, H l = none → Q (.ref l) (upd H l (.tup ys))) ∨ (SqT X.K H p ys ∧ Q (.ref p) H)) := fun {a us xs} hs hl q =>
    ⟨a, us, rfl, .inl ⟨hs, fun l hL => by
      have u := Up.new (o := .tup us) s hL
      exact q _ _ _ u (.tup upd_same (hl.up u.b))⟩⟩
  unfold gTuple at e
  split at e
  · obtain ⟨v, rfl, hv⟩ := repTL_1 hr
    cases e
    obtain ⟨a, us, rfl, h1, h2⟩ := repT_lst s hv
    exact new (SqL.of h1) h2 q
  · obtain ⟨v, rfl, hv⟩ := repTL_1 hr
    cases e
    obtain ⟨a, us, rfl, h1, h2⟩ := repT_ro s hv
    exact new h1 h2 q
  · obtain ⟨v, rfl, hv⟩ := repTL_1 hr
    cases e
    rcases hv with hv | ⟨_, _, _, e, _⟩
    · cases hv with
      | tup h1 h2 => exact ⟨_, _, rfl, .inr ⟨SqT.of (s _ _ h1), q _ B H (Up.refl s) (.tup h1 h2)⟩⟩
    · cases e
  · obtain ⟨v, rfl, hv⟩ := repTL_1 hr
    cases e
    rcases hv with hv | ⟨_, _, _, e, _⟩
    · cases hv with
      | ct h1 h2 => exact ⟨_, _, rfl, .inr ⟨VL.SqT.up s h1, q _ B H (Up.refl s) (.ct h1 h2)⟩⟩
    · cases e
  · cases e
def gAbs : List D → Option D := fun ds => match ds with
  | [.int i] => some (.int (if i < 0 then -i else i))
  | _ => none
theorem gAbs_ok : CBOk K (fun xs H Q => ∃ i, xs = [.int i] ∧ Q (.int (if i < 0 then -i else i)) H) gAbs := fun B H ds vs Q d s hr e q => by
  unfold gAbs at e
  split at e
  · obtain ⟨v, rfl, hv⟩ := repTL_1 hr
    cases e
    cases repT_int hv
    exact ⟨_, rfl, q _ B H (Up.refl s) (.int _)⟩
  · cases e
def gInt : List D → Option D := fun ds => match ds with
  | [.int i] => some (.int i)
  | [.bl b] => some (.int (if b then 1 else 0))
  | _ => none
theorem gInt_ok : CBOk K (fun xs H Q => (∃ i, xs = [.int i] ∧ Q (.int i) H) ∨ ∃ k, xs = [.bl k] ∧ Q (.int (if k then 1 else 0)) H) gInt := fun B H ds vs Q d s hr e q => by
  unfold gInt at e
  split at e
  · obtain ⟨v, rfl, hv⟩ := repTL_1 hr
    cases e
    cases repT_int hv
    exact .inl ⟨_, rfl, q _ B H (Up.refl s) (.int _)⟩
  · obtain ⟨v, rfl, hv⟩ := repTL_1 hr
    cases e
    cases repT_bl hv
    exact .inr ⟨_, rfl, q _ B H (Up.refl s) (.int _)⟩
  · cases e
def gMax2 : List D → Option D := fun ds => match ds with
  | [.int i, .int j] => some (.int (if j > i then j else i))
  | _ => none
def gMin2 : List D → Option D := fun ds => match ds with
  | [.int i, .int j] => some (.int (if j < i then j else i))
  | _ => none
theorem gMax2_ok : CBOk K (fun xs H Q => ∃ i j, xs = [.int i, .int j] ∧ Q (.int (if j > i then j else i)) H) gMax2 := fun B H ds vs Q d s hr e q => by
  unfold gMax2 at e
  split at e
  · obtain ⟨v, w, rfl, hv, hw⟩ := repTL_2 hr
    cases e
    cases repT_int hv
    cases repT_int hw
    exact ⟨_, _, rfl, q _ B H (Up.refl s) (.int _)⟩
  · cases e
theorem gMin2_ok : CBOk K (fun xs H Q => ∃ i j, xs = [.int i, .int j] ∧ Q (.int (if j < i then j else i)) H) gMin2 := fun B H ds vs Q d s hr e q => by
  unfold gMin2 at e
  split at e
  · obtain ⟨v, w, rfl, hv, hw⟩ := repTL_2 hr
    cases e
    cases repT_int hv
    cases repT_int hw
    exact ⟨_, _, rfl, q _ B H (Up.refl s) (.int _)⟩
  · cases e
/-- isinstance of data against a built-in class -/
def tyD : D → Option String
  | .non => some "NoneType"
  | .bl _ => some "bool"
  | .int _ => some "int"
  | .str _ => some "str"
  | .lst _ => some "list"
  | .tup _ => some "tuple"
  | _ => none
theorem tyD_ok {d : D} {v : V} {t : String} (s : Same B H) (h : RepT K B H d v) (e : tyD d = some t) : TyX K H v (.type t) := by
  unfold tyD at e
  split at e <;> (try cases e)
  · cases repT_non h; exact .base .non
  · cases repT_bl h; exact .base (.bl _)
  · cases repT_int h; exact .base (.int _)
  · cases repT_str h; exact .base (.str _)
  · obtain ⟨a, vs, rfl, h1, _⟩ := repT_lst s h
    exact .base (.lst h1)
  · obtain ⟨a, vs, rfl, h1, _⟩ := repT_tup s h
    exact .base (.tup h1)
def gIsi : List D → Option D := fun ds => match ds with
  | [d, .ty n] => (tyD d).bind fun t => (kitB t n).map .bl
  | _ => none
theorem gIsi_ok : CBOk K (rIsi K) gIsi := fun B H ds vs Q d s hr e q => by
  unfold gIsi at e
  split at e
  · rename_i d0 n
    obtain ⟨v, w, rfl, hv, hw⟩ := repTL_2 hr
    cases repT_ty hw
    cases h1 : tyD d0 with
    | none => rw [h1] at e; cases e
    | some t =>
      rw [h1] at e
      obtain ⟨b, h2, rfl⟩ := Option.map_eq_some_iff.mp (show (kitB t n).map D.bl = some d from e)
      exact ⟨v, .ty n, .type t, .type n, b, rfl, .ty n, tyD_ok s hv h1, kit_ty h2, q _ B H (Up.refl s) (.bl _)⟩
  · cases e
end
section
variable {X : Cx} {W : WX} {e a b : Expr} {es : List Expr} {ta tb : TE} {tA : TA} {fa fb : En → R D} {fn : En → R (List D)} {p pos p2 : Pos}
/-! ### slices -/
structure VO (X : Cx) (W : WX) (e : Option Expr) (t : TO) (f : En → R (Option Int)) : Prop where
  pe : PO X e t
  ok : ∀ Fo B H ρ σ (Q : Option Int → Hp → Prop), RS X.K Fo B H ρ σ → (match f ρ with
    | .ok o => ∀ B' H', Up B H B' H' → Q o H'
    | .er C => ∀ B' H', Up B H B' H' → W (.ref C) none σ H'
    | .no => False) → t σ H Q
def oNone : En → R (Option Int) := fun _ => .ok none
def oSome (f : En → R D) : En → R (Option Int) := fun ρ => (f ρ).bind fun d => match d with
  | .int i => .ok (some i)
  | _ => .no
theorem vo_none : VO X W none tNoPart oNone := ⟨po_none, fun Fo B H ρ σ Q r q => q B H r.same⟩
theorem vo_some (h : VE X W e ta fa) : VO X W (some e) (tPart ta) (oSome fa) := ⟨po_some h.pe, fun Fo B H ρ σ Q r q => by
  unfold oSome at q
  refine h.ok Fo B H ρ σ _ r ?_
  cases h1 : fa ρ with
  | no => rw [h1] at q; exact q
  | er C => rw [h1] at q; exact q
  | ok d =>
    rw [h1, R.bind_ok] at q
    intro v B' H' u hv
    cases hv <;> first | exact q.elim | exact ⟨_, rfl, q B' H' u⟩⟩
def cutD (xs : List D) (lo hi : Option Int) : List D := (xs.drop (HT.sIx xs.length 0 lo)).take (HT.sIx xs.length xs.length hi - HT.sIx xs.length 0 lo)
def dSl (f : En → R D) (fl fh : En → R (Option Int)) : En → R (List D) := fun ρ => (f ρ).bind fun d => (fl ρ).bind fun l => (fh ρ).bind fun h => match d with
  | .lst xs => .ok (cutD xs l h)
  | .ro xs => .ok (cutD xs l h)
  | _ => .no
theorem cut_rep {K : PySem.W.Frag} {B : Hp} {xs : List D} {vs : List V} (r : RepL K B xs vs) (l h : Option Int) : RepL K B (cutD xs l h) (cutV vs l h) := by
  unfold cutD cutV
  rw [← r.length]
  exact (r.drop _).take _
theorem vn_slice {lo hi : Option Expr} {tl th : TO} {fl fh : En → R (Option Int)} (ha : VP X W e ta fa) (hl : VO X W lo tl fl) (hh : VO X W hi th fh) : VN X W (.Subscript e (.Slice lo hi none p2) pos) (tSl (rSlL X.K) ta tl th) (dSl fa fl fh) :=
  ⟨pe_slice sl_list ha.pe hl.pe hh.pe, fun Fo B H ρ σ Q r q => by
    unfold dSl at q
    refine ha.ok Fo B H ρ σ _ r ?_
    cases h1 : fa ρ with
    | no => rw [h1] at q; exact q
    | er C => rw [h1] at q; exact q
    | ok d =>
      rw [h1, R.bind_ok] at q
      intro v B1 H1 u1 hv
      refine hl.ok Fo B1 H1 ρ σ _ (r.up u1) ?_
      cases h2 : fl ρ with
      | no => rw [h2] at q; exact q
      | er C => rw [h2] at q; exact fun B' H' u => q B' H' (u1.trans u)
      | ok l =>
        rw [h2, R.bind_ok] at q
        intro B2 H2 u2
        have u12 := u1.trans u2
        refine hh.ok Fo B2 H2 ρ σ _ (r.up u12) ?_
        cases h3 : fh ρ with
        | no => rw [h3] at q; exact q
        | er C => rw [h3] at q; exact fun B' H' u => q B' H' (u12.trans u)
        | ok h =>
          rw [h3, R.bind_ok] at q
          intro B3 H3 u3
          have u13 := u12.trans u3
          have hv3 := hv.up (u2.trans u3)
          cases d with
          | lst xs =>
            obtain ⟨a, vs, rfl, e1, e2⟩ := repT_lst u3.bh hv3
            exact ⟨a, vs, rfl, SqL.of e1, fun p hp => q p _ B3 _ (u13.trans (Up.apart u3.bh hp)) (u3.bh.free hp) (u13.h.free hp) upd_same (cut_rep e2 _ _)⟩
          | ro xs =>
            obtain ⟨a, vs, rfl, e1, e2⟩ := repT_ro u3.bh hv3
            exact ⟨a, vs, rfl, e1, fun p hp => q p _ B3 _ (u13.trans (Up.apart u3.bh hp)) (u3.bh.free hp) (u13.h.free hp) upd_same (cut_rep e2 _ _)⟩
          | _ => exact q.elim⟩
/-! ### chains of two comparisons -/
def chK (r : R D) : D → R D
  | .bl true => r
  | .bl false => .ok (.bl false)
  | _ => .no
def dChain (g g' : D → D → Option D) (fa fb fc : En → R D) : En → R D := fun ρ => (fa ρ).bind fun x => (fb ρ).bind fun y => (ofO (g x y)).bind (chK ((fc ρ).bind fun w => ofO (g' y w)))
theorem tChain_ok {c : Expr} {tc : TE} {fc : En → R D} {r r' : R2} {g g' : D → D → Option D} (hr : R2Ok X.K r g) (hr' : R2Ok X.K r' g') (ha : VP X W a ta fa) (hb : VP X W b tb fb) (hc : VP X W c tc fc) {Fo B H ρ σ Q} (rs : RS X.K Fo B H ρ σ) (q : EPost X.K W σ B H (dChain g g' fa fb fc ρ) Q) :
    tChain r r' ta tb tc σ H Q := by
  unfold dChain at q
  refine ha.ok Fo B H ρ σ _ rs ?_
  cases h1 : fa ρ with
  | no => rw [h1] at q; exact q
  | er C => rw [h1] at q; exact q
  | ok x =>
    rw [h1, R.bind_ok] at q
    intro v B1 H1 u1 r1
    refine hb.ok Fo B1 H1 ρ σ _ (rs.up u1) ?_
    cases h2 : fb ρ with
    | no => rw [h2] at q; exact q
    | er C => rw [h2] at q; exact fun B' H' u => q B' H' (u1.trans u)
    | ok y =>
      rw [h2, R.bind_ok] at q
      intro w B2 H2 u2 r2
      cases h3 : g x y with
      | none => rw [h3] at q; exact q.elim
      | some d =>
        rw [h3] at q
        have q : EPost X.K W σ B H (chK ((fc ρ).bind fun w => ofO (g' y w)) d) Q := q
        refine hr B2 H2 x y v w _ d u2.bh (r1.up u2) r2 h3 fun z B3 H3 u3 hz => ?_
        have u13 := (u1.trans u2).trans u3
        cases hz with
        | bl k =>
          cases k with
          | false => exact ⟨false, rfl, iteF (q _ B3 H3 u13 (.bl _))⟩
          | true =>
            refine ⟨true, rfl, iteT ?_⟩
            unfold chK at q
            refine hc.ok Fo B3 H3 ρ σ _ (rs.up u13) ?_
            cases h4 : fc ρ with
            | no => rw [h4] at q; exact q
            | er C => rw [h4] at q; exact fun B' H' u => q B' H' (u13.trans u)
            | ok x3 =>
              rw [h4, R.bind_ok] at q
              intro w3 B4 H4 u4 r4
              cases h5 : g' y x3 with
              | none => rw [h5] at q; exact q.elim
              | some d3 =>
                rw [h5] at q
                exact hr' B4 H4 y x3 w w3 Q d3 u4.bh (r2.up (u3.trans u4)) r4 h5 fun z B' H' u' hz => q z B' H' ((u13.trans u4).trans u') hz
        | _ => exact q.elim
theorem ve_chain {op op' : CmpOp} {c : Expr} {tc : TE} {fc : En → R D} {r r' : R2} {g g' : D → D → Option D} (ho : OpR X (compareOp op) r) (ho' : OpR X (compareOp op') r') (hr : R2Ok X.K r g) (hr' : R2Ok X.K r' g') (ha : VP X W a ta fa) (hb : VP X W b tb fb) (hc : VP X W c tc fc)
    (hm : lastMarks [op, op'] [b, c] = false := by with_unfolding_all rfl) : VE X W (.Compare a [op, op'] [b, c] pos) (L2.tChain r r' ta tb tc) (dChain g g' fa fb fc) :=
  ⟨pe_chain ho ho' ha.pe hb.pe hc.pe hm, fun _ _ _ _ _ _ rs q => tChain_ok hr hr' ha hb hc rs q⟩
theorem vt_chain {op op' : CmpOp} {c : Expr} {tc : TE} {fc : En → R D} {r r' : R2} {g g' : D → D → Option D} (ho : OpR X (compareOp op) r) (ho' : OpR X (compareOp op') r') (hr : R2Ok X.K r g) (hr' : R2Ok X.K r' g') (ha : VP X W a ta fa) (hb : VP X W b tb fb) (hc : VP X W c tc fc)
    (hm : lastMarks [op, op'] [b, c] = false := by with_unfolding_all rfl) : VT X W (.Compare a [op, op'] [b, c] pos) (tTest (L2.tChain r r' ta tb tc)) (dBl (dChain g g' fa fb fc)) :=
  ⟨pt_chain ho ho' ha.pe hb.pe hc.pe hm, fun Fo B H ρ σ Q rs q => by
    unfold dBl at q
    refine tChain_ok hr hr' ha hb hc rs ?_
    cases h : dChain g g' fa fb fc ρ with
    | no => rw [h] at q; exact q
    | er C => rw [h] at q; exact q
    | ok d =>
      rw [h, R.bind_ok] at q
      intro v B' H' u hv
      cases hv <;> first | exact q.elim | exact ⟨_, rfl, q B' H' u⟩⟩
/-! ### short words -/
abbrev rLenB (K : PySem.W.Frag) : List V → Hp → VK → Prop := fun xs H Q => ∃ x n, xs = [x] ∧ LenV K x H n ∧ Q (.int n) H
abbrev rListB (K : PySem.W.Frag) : List V → Hp → VK → Prop := fun xs H Q => ∃ p ys, xs = [.ref p] ∧ (SqL K H p ys ∨ SqT K H p ys) ∧ ∀ l, H l = none → Q (.ref l) (upd H l (.lst ys))
abbrev rTupleB (K : PySem.W.Frag) : List V → Hp → VK → Prop := fun xs H Q => ∃ p ys, xs = [.ref p] ∧ ((SqL K H p ys ∧ ∀ l, H l = none → Q (.ref l) (upd H l (.tup ys))) ∨ (SqT K H p ys ∧ Q (.ref p) H))
abbrev rAbsB : List V → Hp → VK → Prop := fun xs H Q => ∃ i, xs = [.int i] ∧ Q (.int (if i < 0 then -i else i)) H
abbrev rIntB : List V → Hp → VK → Prop := fun xs H Q => (∃ i, xs = [.int i] ∧ Q (.int i) H) ∨ ∃ k, xs = [.bl k] ∧ Q (.int (if k then 1 else 0)) H
abbrev rMax2B : List V → Hp → VK → Prop := fun xs H Q => ∃ i j, xs = [.int i, .int j] ∧ Q (.int (if j > i then j else i)) H
abbrev rMin2B : List V → Hp → VK → Prop := fun xs H Q => ∃ i j, xs = [.int i, .int j] ∧ Q (.int (if j < i then j else i)) H
theorem ve_len (hm : X.mg "len" = none) (ha : VAP X W (e :: es) tA fn) (hg : Gl X "len" := by rfl) (he : starEach (e :: es) X.env = (false, eval e X.env) :: starEach es X.env := by rfl) (hpl : (backTo pos (starEach es X.env)).any (·.1) = false := by rfl) :
    VE X W (.Call (.Name "len" p) (e :: es) [] pos) (tCB (rLenB X.K) tA) (dCB gLen fn) := ve_callB call_len gLen_ok hm PySem.boot_len ha hg (by decide) (by decide) he hpl
theorem vn_list (hm : X.mg "list" = none) (ha : VAP X W (e :: es) tA fn) (hg : Gl X "list" := by rfl) (he : starEach (e :: es) X.env = (false, eval e X.env) :: starEach es X.env := by rfl) (hpl : (backTo pos (starEach es X.env)).any (·.1) = false := by rfl) :
    VN X W (.Call (.Name "list" p) (e :: es) [] pos) (tCB (rListB X.K) tA) (dCBN gList fn) := vn_callTy call_list_of gList_ok hm (by decide +kernel) ha hg (by decide) (by decide) he hpl
theorem ve_tuple (hm : X.mg "tuple" = none) (ha : VAP X W (e :: es) tA fn) (hg : Gl X "tuple" := by rfl) (he : starEach (e :: es) X.env = (false, eval e X.env) :: starEach es X.env := by rfl) (hpl : (backTo pos (starEach es X.env)).any (·.1) = false := by rfl) :
    VE X W (.Call (.Name "tuple" p) (e :: es) [] pos) (tCB (rTupleB X.K) tA) (dCB gTuple fn) := ve_callTy call_tuple_of gTuple_ok hm (by decide +kernel) ha hg (by decide) (by decide) he hpl
theorem ve_abs (hm : X.mg "abs" = none) (ha : VAP X W (e :: es) tA fn) (hg : Gl X "abs" := by rfl) (he : starEach (e :: es) X.env = (false, eval e X.env) :: starEach es X.env := by rfl) (hpl : (backTo pos (starEach es X.env)).any (·.1) = false := by rfl) :
    VE X W (.Call (.Name "abs" p) (e :: es) [] pos) (tCB (rAbsB) tA) (dCB gAbs fn) := ve_callB call_abs gAbs_ok hm (by decide +kernel) ha hg (by decide) (by decide) he hpl
theorem ve_intc (hm : X.mg "int" = none) (ha : VAP X W (e :: es) tA fn) (hg : Gl X "int" := by rfl) (he : starEach (e :: es) X.env = (false, eval e X.env) :: starEach es X.env := by rfl) (hpl : (backTo pos (starEach es X.env)).any (·.1) = false := by rfl) :
    VE X W (.Call (.Name "int" p) (e :: es) [] pos) (tCB (rIntB) tA) (dCB gInt fn) := ve_callTy call_int1 gInt_ok hm (by decide +kernel) ha hg (by decide) (by decide) he hpl
theorem ve_max2 (hc : X.calm = true) (hm : X.mg "max" = none) (ha : VAP X W (e :: es) tA fn) (hg : Gl X "max" := by rfl) (he : starEach (e :: es) X.env = (false, eval e X.env) :: starEach es X.env := by rfl) (hpl : (backTo pos (starEach es X.env)).any (·.1) = false := by rfl) :
    VE X W (.Call (.Name "max" p) (e :: es) [] pos) (tCB (rMax2B) tA) (dCB gMax2 fn) := ve_callB (call_max2 hc) gMax2_ok hm (by decide +kernel) ha hg (by decide) (by decide) he hpl
theorem ve_min2 (hc : X.calm = true) (hm : X.mg "min" = none) (ha : VAP X W (e :: es) tA fn) (hg : Gl X "min" := by rfl) (he : starEach (e :: es) X.env = (false, eval e X.env) :: starEach es X.env := by rfl) (hpl : (backTo pos (starEach es X.env)).any (·.1) = false := by rfl) :
    VE X W (.Call (.Name "min" p) (e :: es) [] pos) (tCB (rMin2B) tA) (dCB gMin2 fn) := ve_callB (call_min2 hc) gMin2_ok hm (by decide +kernel) ha hg (by decide) (by decide) he hpl
theorem ve_isi (hm : X.mg "isinstance" = none) (ha : VAP X W (e :: es) tA fn) (hg : Gl X "isinstance" := by rfl) (he : starEach (e :: es) X.env = (false, eval e X.env) :: starEach es X.env := by rfl) (hpl : (backTo pos (starEach es X.env)).any (·.1) = false := by rfl) :
    VE X W (.Call (.Name "isinstance" p) (e :: es) [] pos) (tCB (rIsi X.K) tA) (dCB gIsi fn) := ve_callB call_isi gIsi_ok hm (by decide +kernel) ha hg (by decide) (by decide) he hpl
theorem ve_gint {x : Str} {i : Int} {pos : Pos} (c : ∃ t, X.mg x = some (.int i t)) (hg : Gl X x := by rfl) (hd : (x == ("__debug__" : Str)) = false := by decide) : VE X W (.Name x pos) (tC (.int i)) (dC (.int i)) :=
  ve_glob c.choose_spec ⟨_, rfl⟩ (fun _ => .int _) hg hd
theorem ve_gcon {x : Str} {d : D} {pos : Pos} (c : ∃ a, X.mg x = some (.ref a) ∧ ∀ B, Rep X.K B d (.ref a)) (hg : Gl X x := by rfl) (hd : (x == ("__debug__" : Str)) = false := by decide) : VE X W (.Name x pos) (tC (.ref c.choose)) (dC d) :=
  ve_glob c.choose_spec.1 rfl c.choose_spec.2 hg hd
theorem ve_bltn {x : Str} {v : V} {d : D} {u : Value} {pos : Pos} (hm : X.mg x = none) (hv : bootBuiltins x = some u) (r : RelV v u) (hr : ∀ B, Rep X.K B d v) (hg : Gl X x := by rfl) (hn : x ≠ "__name__" := by decide) (hd : (x == ("__debug__" : Str)) = false := by decide) : VE X W (.Name x pos) (tC v) (dC d) :=
  ve_c (pe_bltn hg hm hv r hn hd) hr
end
end VL
set_option maxRecDepth 100000
set_option maxHeartbeats 4000000
namespace VL
open PySem PySem.Spec PyProof.Rows L2

/-! ### evaluation -/
theorem gAdd_i (i j : Int) : gAdd (.int i) (.int j) = some (.int (i + j)) := rfl
theorem gAdd_l {xs ys : List D} (h : xs.length + ys.length ≤ sizeLine) : gAdd (.lst xs) (.lst ys) = some (.lst (xs ++ ys)) := if_pos h
theorem gCat_l {xs ys : List D} (h : xs.length + ys.length ≤ sizeLine) : gCat (.lst xs) (.lst ys) = some (xs ++ ys) := if_pos h
theorem gSub_i (i j : Int) : gSub (.int i) (.int j) = some (.int (i - j)) := rfl
theorem gMul_r {i j : Int} (h : -(2 ^ 64) < j ∧ j < 2 ^ 64) : gMul (.int i) (.int j) = some (.int (i * j)) := if_pos (.inl (.inr h))
theorem gMul_l {i j : Int} (h : -(2 ^ 64) < i ∧ i < 2 ^ 64) : gMul (.int i) (.int j) = some (.int (i * j)) := if_pos (.inl (.inl h))
theorem gMul_w {i j : Int} (h : i.natAbs.log2 + j.natAbs.log2 < 1000000) : gMul (.int i) (.int j) = some (.int (i * j)) := if_pos (.inr h)
theorem gMul_rep {xs : List D} {k : Int} (h0 : 0 ≤ k) (h1 : xs.length * k.toNat ≤ sizeLine) (h2 : k < 2 ^ 63) : gMul (.lst xs) (.int k) = some (.lst (List.replicate k.toNat xs).flatten) := if_pos ⟨by omega, h2, h1⟩
theorem gRepN_l {xs : List D} {k : Int} (h0 : 0 ≤ k) (h1 : xs.length * k.toNat ≤ sizeLine) (h2 : k < 2 ^ 63) : gRepN (.lst xs) (.int k) = some (List.replicate k.toNat xs).flatten := if_pos ⟨by omega, h2, h1⟩
theorem log2_lt_of {n : Nat} {k : Nat} (h : n < 2 ^ k) (hk : 0 < k) : n.log2 < k := PySem.Flt.log2_lt_of hk h
theorem gFDiv_s {i j : Int} (h : 0 < j ∧ j < 2 ^ 64) : gFDiv (.int i) (.int j) = some (.int (i / j)) := if_pos ⟨h.1, Nat.lt_of_lt_of_le (log2_lt_of (k := 64) (by omega) (by decide)) (by decide)⟩
theorem gFDiv_w {i j : Int} (h : 0 < j) (h2 : j.natAbs.log2 < 9000) : gFDiv (.int i) (.int j) = some (.int (i / j)) := if_pos ⟨h, h2⟩
theorem gMod_i {i j : Int} (h : 0 < j) : gMod (.int i) (.int j) = some (.int (i % j)) := if_pos h
theorem gPow_i {i j : Int} (h : 0 ≤ j ∧ j ≤ 1000000 ∧ i.natAbs < 2 ^ 64) : gPow (.int i) (.int j) = some (.int (i ^ j.toNat)) := if_pos h
theorem gShl_i {i j : Int} (h : 0 ≤ j ∧ j ≤ 1000000 ∧ i.natAbs < 2 ^ 64) : gShl (.int i) (.int j) = some (.int (i * 2 ^ j.toNat)) := if_pos h
theorem gShr_i {i j : Int} (h : 0 ≤ j) : gShr (.int i) (.int j) = some (.int (i / 2 ^ j.toNat)) := if_pos h
theorem gAnd_i (i j : Int) : gAnd (.int i) (.int j) = some (.int (Builtin.bitAnd i j)) := rfl
theorem gOr_i (i j : Int) : gOr (.int i) (.int j) = some (.int (Builtin.bitOr i j)) := rfl
theorem gXor_i (i j : Int) : gXor (.int i) (.int j) = some (.int (Builtin.bitXor i j)) := rfl
theorem gLt_i (i j : Int) : gLt (.int i) (.int j) = some (.bl (decide (i < j))) := rfl
theorem gLe_i (i j : Int) : gLe (.int i) (.int j) = some (.bl (decide (i ≤ j))) := rfl
theorem gGt_i (i j : Int) : gGt (.int i) (.int j) = some (.bl (decide (j < i))) := rfl
theorem gGe_i (i j : Int) : gGe (.int i) (.int j) = some (.bl (decide (j ≤ i))) := rfl
theorem eqD_ii (i j : Int) : eqD (.int i) (.int j) = some (i == j) := rfl
theorem gEq_i (i j : Int) : gEq (.int i) (.int j) = some (.bl (i == j)) := rfl
theorem gNe_i (i j : Int) : gNe (.int i) (.int j) = some (.bl (!(i == j))) := rfl
theorem gLen_l (xs : List D) : gLen [.lst xs] = some (.int xs.length) := rfl
theorem gLen_r (xs : List D) : gLen [.ro xs] = some (.int xs.length) := rfl
theorem gLen_t (xs : List D) : gLen [.tup xs] = some (.int xs.length) := rfl
theorem gLen_c (xs : List D) : gLen [.ct xs] = some (.int xs.length) := rfl
theorem gInt_i (i : Int) : gInt [.int i] = some (.int i) := rfl
theorem gInt_b (b : Bool) : gInt [.bl b] = some (.int (if b then 1 else 0)) := rfl
theorem gAbs_i (i : Int) : gAbs [.int i] = some (.int (if i < 0 then -i else i)) := rfl
theorem uApp_l {ds : List D} {d : D} (h : ds.length < sizeLine) : uApp ds d = some (ds ++ [d]) := if_pos h
theorem atI_get {α : Type} {xs : List α} {i : Int} (h0 : 0 ≤ i) (h1 : i < xs.length) : atI xs i = xs[i.toNat]? := by
  unfold atI ixN
  rw [if_pos h0, if_pos h1]
  rfl
theorem gIx_l {xs : List D} {i : Int} (h0 : 0 ≤ i) (h1 : i < xs.length) : gIx (.lst xs) (.int i) = xs[i.toNat]? := atI_get h0 h1
theorem gIx_r {xs : List D} {i : Int} (h0 : 0 ≤ i) (h1 : i < xs.length) : gIx (.ro xs) (.int i) = xs[i.toNat]? := atI_get h0 h1
theorem gIx_t {xs : List D} {i : Int} (h0 : 0 ≤ i) (h1 : i < xs.length) : gIx (.tup xs) (.int i) = xs[i.toNat]? := atI_get h0 h1
theorem gIx_c {xs : List D} {i : Int} (h0 : 0 ≤ i) (h1 : i < xs.length) : gIx (.ct xs) (.int i) = xs[i.toNat]? := atI_get h0 h1
theorem toPDL_ints : ∀ xs : List Int, toPDL (xs.map .int) = some (xs.map .int)
  | [] => rfl
  | x :: xs => by
    simp only [List.map_cons]
    unfold toPDL
    rw [toPDL_ints xs]
    rfl
theorem canLay_ints : ∀ xs : List Int, PyData.canLayAll0 (xs.map PyData.int) = true
  | [] => rfl
  | x :: xs => by
    simp only [List.map_cons]
    unfold PyData.canLayAll0
    rw [canLay_ints xs]
    rfl
theorem eqvAll_ints : ∀ xs ys : List Int, PyData.eqvAll (xs.map .int) (ys.map .int) = (xs == ys)
  | [], [] => rfl
  | [], y :: ys => rfl
  | x :: xs, [] => rfl
  | x :: xs, y :: ys => by
    simp only [List.map_cons]
    unfold PyData.eqvAll
    rw [eqvAll_ints xs ys]
    unfold PyData.eqv
    show _ = ((x == y) && (xs == ys))
    rfl
theorem depthAll_ints : ∀ xs : List Int, PyData.depthAll (xs.map PyData.int) ≤ 1
  | [] => by unfold PyData.depthAll; decide
  | x :: xs => by
    simp only [List.map_cons]
    unfold PyData.depthAll
    have := depthAll_ints xs
    have e : PyData.depth (.int x) ≤ 1 := by unfold PyData.depth; decide
    omega
theorem shaped_ints (xs : List Int) : SeqAt.shaped (.list (xs.map .int)) = true := by
  unfold SeqAt.shaped
  rw [Bool.and_eq_true]
  refine ⟨?_, decide_eq_true ?_⟩
  · unfold PyData.canLay0
    exact canLay_ints xs
  · unfold PyData.depth
    have := depthAll_ints xs
    omega
theorem eqD_ints (xs ys : List Int) : eqD (.lst (xs.map .int)) (.lst (ys.map .int)) = some (xs == ys) := by
  unfold eqD
  simp only [toPD, toPDL_ints, Option.map_some]
  rw [if_pos ⟨shaped_ints xs, shaped_ints ys⟩]
  congr 1
  unfold PyData.eqv
  exact eqvAll_ints xs ys

theorem seq_nx {f g : En → Out} {ρ ρ' : En} (h : f ρ = .nx ρ') : gSeq f g ρ = g ρ' := by unfold gSeq; rw [h]
theorem seq_rt {f g : En → Out} {ρ : En} {d : D} (h : f ρ = .rt d) : gSeq f g ρ = .rt d := by unfold gSeq; rw [h]
theorem fnV_rt {n : Nat} {g : En → Out} {ds : List D} {d : D} (h : g (startE n ds) = .rt d) : fnV n g ds = .ok d := by unfold fnV finV; rw [h]
theorem fnV_nx {n : Nat} {g : En → Out} {ds : List D} {ρ : En} (h : g (startE n ds) = .nx ρ) : fnV n g ds = .ok .non := by unfold fnV finV; rw [h]
theorem fnV_er {n : Nat} {g : En → Out} {ds : List D} {C : Addr} {ρ : En} (h : g (startE n ds) = .er C ρ) : fnV n g ds = .er C := by unfold fnV finV; rw [h]
theorem fnN_rn {n : Nat} {g : En → Out} {ds xs : List D} (h : g (startE n ds) = .rn xs) : fnN n g ds = .ok xs := by unfold fnN finN; rw [h]
theorem fnN_er {n : Nat} {g : En → Out} {ds : List D} {C : Addr} {ρ : En} (h : g (startE n ds) = .er C ρ) : fnN n g ds = .er C := by unfold fnN finN; rw [h]
theorem for_step {fi : En → R (List D)} {gf : D → En → Option En} {gb : En → Out} {ρ ρ' : En} {ds : List D} (hf : fi ρ = .ok ds) (h : forD gf gb ds ρ = .nx ρ') : gFor fi gf gb ρ = .nx ρ' := by unfold gFor gLet; rw [hf]; exact h
/-! ### isinstance -/
theorem kb_int_int : kitB "int" "int" = some true := by decide +kernel
theorem kb_int_bool : kitB "int" "bool" = some false := by decide +kernel
theorem kb_int_list : kitB "int" "list" = some false := by decide +kernel
theorem kb_int_tuple : kitB "int" "tuple" = some false := by decide +kernel
theorem kb_bool_int : kitB "bool" "int" = some true := by decide +kernel
theorem kb_bool_bool : kitB "bool" "bool" = some true := by decide +kernel
theorem kb_list_list : kitB "list" "list" = some true := by decide +kernel
theorem kb_list_int : kitB "list" "int" = some false := by decide +kernel
theorem kb_list_bool : kitB "list" "bool" = some false := by decide +kernel
theorem kb_list_tuple : kitB "list" "tuple" = some false := by decide +kernel
theorem kb_tuple_tuple : kitB "tuple" "tuple" = some true := by decide +kernel
theorem kb_tuple_list : kitB "tuple" "list" = some false := by decide +kernel
theorem kb_tuple_int : kitB "tuple" "int" = some false := by decide +kernel
theorem kb_str_str : kitB "str" "str" = some true := by decide +kernel
theorem kb_str_int : kitB "str" "int" = some false := by decide +kernel
theorem kb_str_list : kitB "str" "list" = some false := by decide +kernel
theorem kb_non_list : kitB "NoneType" "list" = some false := by decide +kernel
theorem kb_non_int : kitB "NoneType" "int" = some false := by decide +kernel
theorem kb_bool_list : kitB "bool" "list" = some false := by decide +kernel
theorem gIsi_e (d : D) (n : String) : gIsi [d, .ty n] = (tyD d).bind fun t => (kitB t n).map .bl := rfl
theorem gList_l (xs : List D) : gList [.lst xs] = some xs := rfl
theorem gList_r (xs : List D) : gList [.ro xs] = some xs := rfl
theorem gList_t (xs : List D) : gList [.tup xs] = some xs := rfl
theorem gList_c (xs : List D) : gList [.ct xs] = some xs := rfl
theorem gzip_l (xs ys : List D) : gzip [.lst xs, .lst ys] = .ok ((xs.zip ys).map fun p => .tup [p.1, p.2]) := rfl
theorem genum_l (xs : List D) : genum [.lst xs] = .ok (xs.zipIdx.map fun p => .tup [.int (p.2 : Nat), p.1]) := rfl

/-! ### loops -/
theorem for_map' {α β J : Type} (c : β → D) (mk : α → J → En) (step : α → β → α) {gf : D → En → Option En} {gb : En → Out} (I : List β → α → Prop) (all : List β)
    (h : ∀ pre x post a j, all = pre ++ x :: post → I pre a → ∃ ρ1 j', gf (c x) (mk a j) = some ρ1 ∧ (gb ρ1 = .nx (mk (step a x) j') ∨ gb ρ1 = .ct (mk (step a x) j')) ∧ I (pre ++ [x]) (step a x)) :
    ∀ (xs pre : List β) (a : α) (j : J), all = pre ++ xs → I pre a → ∃ j', forD gf gb (xs.map c) (mk a j) = .nx (mk (xs.foldl step a) j') ∧ I (pre ++ xs) (xs.foldl step a)
  | [], pre, a, j, _, hi => ⟨j, rfl, by rw [List.append_nil]; exact hi⟩
  | x :: xs, pre, a, j, hm, hi => by
    obtain ⟨ρ1, j1, e1, e2, hi1⟩ := h pre x xs a j hm hi
    obtain ⟨j2, e3, hi2⟩ := for_map' c mk step I all h xs (pre ++ [x]) (step a x) j1 (by rw [hm, List.append_assoc]; rfl) hi1
    refine ⟨j2, ?_, ?_⟩
    · simp only [List.map_cons, List.foldl_cons]
      unfold forD
      rw [e1]
      dsimp only
      rcases e2 with e2 | e2 <;> rw [e2] <;> exact e3
    · rw [List.append_assoc] at hi2
      exact hi2
/-- a loop whose state is folded; I: what holds behind the items taken -/
theorem for_map {α β J : Type} (c : β → D) (mk : α → J → En) (step : α → β → α) {gf : D → En → Option En} {gb : En → Out} (I : List β → α → Prop) (xs : List β) (a : α) (j : J) (hi : I [] a)
    (h : ∀ pre x post a j, xs = pre ++ x :: post → I pre a → ∃ ρ1 j', gf (c x) (mk a j) = some ρ1 ∧ (gb ρ1 = .nx (mk (step a x) j') ∨ gb ρ1 = .ct (mk (step a x) j')) ∧ I (pre ++ [x]) (step a x)) :
    ∃ j', forD gf gb (xs.map c) (mk a j) = .nx (mk (xs.foldl step a) j') ∧ I xs (xs.foldl step a) := for_map' c mk step I xs h xs [] a j rfl hi
/-- .. nothing to say of the state -/
theorem for_fold {α β J : Type} (c : β → D) (mk : α → J → En) (step : α → β → α) {gf : D → En → Option En} {gb : En → Out} (xs : List β) (a : α) (j : J)
    (h : ∀ x a j, x ∈ xs → ∃ ρ1 j', gf (c x) (mk a j) = some ρ1 ∧ (gb ρ1 = .nx (mk (step a x) j') ∨ gb ρ1 = .ct (mk (step a x) j'))) :
    ∃ j', forD gf gb (xs.map c) (mk a j) = .nx (mk (xs.foldl step a) j') := by
  obtain ⟨j', e, _⟩ := for_map c mk step (gf := gf) (gb := gb) (fun _ _ => True) xs a j trivial (fun pre x post a j hx _ => by
    obtain ⟨ρ1, j', h1, h2⟩ := h x a j (by rw [hx]; simp)
    exact ⟨ρ1, j', h1, h2, trivial⟩)
  exact ⟨j', e⟩
theorem pos_lit {n : Nat} (h : (n : Int) < 2 ^ 62) : -(2 ^ 62) ≤ (n : Int) ∧ (n : Int) < 2 ^ 62 := ⟨by omega, h⟩
/-- range(n) -/
theorem dRng_1 {n : Int} {ρ : En} {f : En → R (List D)} (h : f ρ = .ok [.int n]) (h1 : -(2 ^ 62) ≤ n ∧ n < 2 ^ 62) : dRng f ρ = .ok (rngD 0 n) := by
  unfold dRng
  rw [h]
  exact if_pos h1
theorem rngD_0 (n : Int) : rngD 0 n = (List.range n.toNat).map fun (i : Nat) => .int (i : Int) := by
  unfold rngD
  rw [Int.sub_zero]
  congr 1
  funext i
  rw [Int.zero_add]
theorem line_of {n : Nat} (h : n ≤ 10000000) : n < sizeLine := Nat.lt_of_le_of_lt h (by rw [sizeLine_eq]; decide)
theorem line_le {n : Nat} (h : n ≤ 10000000) : n ≤ sizeLine := Nat.le_of_lt (line_of h)
def iL (xs : List Int) : List D := xs.map .int
theorem iL_map (xs : List Int) : iL xs = xs.map .int := rfl
theorem iL_cons (x : Int) (xs : List Int) : iL (x :: xs) = .int x :: iL xs := rfl
theorem iL_get (xs : List Int) (i : Nat) : (iL xs)[i]? = (xs[i]?).map .int := by simp [iL]
theorem iL_app (xs : List Int) (y : Int) : iL xs ++ [.int y] = iL (xs ++ [y]) := by simp [iL]
theorem iL_cat (xs ys : List Int) : iL xs ++ iL ys = iL (xs ++ ys) := by simp [iL]
theorem gEq_ints (xs ys : List Int) : gEq (.lst (iL xs)) (.lst (iL ys)) = some (.bl (xs == ys)) := by unfold gEq iL; rw [eqD_ints]; rfl
theorem gNe_ints (xs ys : List Int) : gNe (.lst (iL xs)) (.lst (iL ys)) = some (.bl (!(xs == ys))) := by unfold gNe iL; rw [eqD_ints]; rfl
theorem iL_nil : iL [] = [] := rfl
theorem iL_len (xs : List Int) : (iL xs).length = xs.length := by simp [iL]
theorem iL_rep (k : Nat) (x : Int) : (List.replicate k [D.int x]).flatten = iL (List.replicate k x) := by
  induction k with
  | zero => rfl
  | succ k ih => simp only [List.replicate_succ, List.flatten_cons, ih, iL, List.map_cons, List.singleton_append]
theorem cutD_to (xs : List D) (k : Nat) : cutD xs none (some (k : Int)) = xs.take k := by
  unfold cutD
  rw [HT.sIx_none, HT.sIx_nat, List.drop_zero, Nat.sub_zero]
  by_cases h : k ≤ xs.length
  · rw [Nat.min_eq_left h]
  · rw [Nat.min_eq_right (by omega), List.take_of_length_le (Nat.le_refl _), List.take_of_length_le (by omega)]
theorem cutD_from (xs : List D) (k : Nat) : cutD xs (some (k : Int)) none = xs.drop k := by
  unfold cutD
  rw [HT.sIx_none, HT.sIx_nat]
  by_cases h : k ≤ xs.length
  · rw [Nat.min_eq_left h]
    exact List.take_of_length_le (by simp)
  · rw [Nat.min_eq_right (by omega), Nat.sub_self, List.take_zero, List.drop_eq_nil_of_le (by omega)]
theorem cutD_mid (xs : List D) (a b : Nat) : cutD xs (some (a : Int)) (some (b : Int)) = (xs.drop a).take (b - a) := by
  unfold cutD
  rw [HT.sIx_nat, HT.sIx_nat]
  by_cases h : a ≤ xs.length
  · rw [Nat.min_eq_left h]
    by_cases hb : b ≤ xs.length
    · rw [Nat.min_eq_left hb]
    · rw [Nat.min_eq_right (show xs.length ≤ b by omega), List.take_of_length_le (by simp), List.take_of_length_le (by simp; omega)]
  · rw [Nat.min_eq_right (show xs.length ≤ a by omega), List.drop_eq_nil_of_le (Nat.le_refl _), List.drop_eq_nil_of_le (by omega)]
    simp
theorem iL_take (xs : List Int) (k : Nat) : (iL xs).take k = iL (xs.take k) := by simp [iL, List.map_take]
theorem iL_drop (xs : List Int) (k : Nat) : (iL xs).drop k = iL (xs.drop k) := by simp [iL, List.map_drop]
end VL
set_option maxRecDepth 100000
set_option maxHeartbeats 4000000
namespace VL
open PySem PySem.Spec PyProof.Rows L2
/-! ### the text -/
def topS (i : Nat) : Stmt := PySem.Challenge.pw_sealgrove_k03_the_small_core.main.body.getD i (.Pass ⟨0, 0, 0, 0⟩)
/-! ### small_core -/
abbrev s_small_core : Stmt := topS 2
def g_small_core_b1 : En → Out := (gSet 1 (dBin gMod (dBin gAdd (dBin gAdd (dBin gMul (dPeek 1) (dC (.int 257))) (dPeek 2)) (dC (.int 1))) (dC (.int 65521))))
def g_small_core_b2 : En → Out := (gSeq (gSet 1 (dBin gMod (dBin gAdd (dBin gMul (dPeek 1) (dC (.int 16807))) (dC (.int 11))) (dC (.int 65521))))
  (gOwn 3 uApp (dBin gMod (dPeek 1) (dC (.int 256)))))
def g_small_core : En → Out := (gSeq (gSet 1 (dC (.int 1)))
  (gSeq (gFor (dIList (dVar 0)) (fName 2) g_small_core_b1)
  (gSeq (gSet 1 (dBin gMod (dBin gAdd (dBin gAdd (dBin gMul (dPeek 1) (dC (.int 31))) (dCB gLen (dCons (dPeek 0) dNil))) (dC (.int 7))) (dC (.int 65521))))
  (gSeq (gSetN 3 (dLst dNil))
  (gSeq (gFor (dRng (dCons (dC (.int 32)) dNil)) (fName 4) g_small_core_b2)
  (gRetO 3))))))
def f_small_core : List D → R (List D) := fnN 5 g_small_core
/-! ### _law_cell -/
abbrev s__law_cell : Stmt := topS 4
def g__law_cell : En → Out := (gSeq (gIf (dBl (dBin gLt (dPeek 1) (dCB gLen (dCons (dPeek 0) dNil))))
  (gRet (dCB gInt (dCons (dBin gIx (dPeek 0) (dPeek 1)) dNil)))
  gNext)
  (gRet (dC (.int 0))))
def f__law_cell : List D → R D := fnV 2 g__law_cell
/-! ### _law_mixed -/
abbrev s__law_mixed : Stmt := topS 5
def g__law_mixed : En → Out := (gSeq (gSet 2 (dBin gMod (dCB gInt (dCons (dBin gAdd (dBin gAdd (dBin gMul (dPeek 0) (dC (.int 48271))) (dBin gMul (dPeek 1) (dC (.int 69621)))) (dC (.int 7))) dNil)) (dC (.int 2147483647))))
  (gSeq (gSet 2 (dBin gMod (dCB gInt (dCons (dBin gAdd (dBin gAdd (dBin gMul (dPeek 2) (dPeek 2)) (dBin gMul (dPeek 1) (dC (.int 40692)))) (dC (.int 3))) dNil)) (dC (.int 2147483629))))
  (gSeq (gSet 2 (dBin gMod (dCB gInt (dCons (dBin gAdd (dBin gAdd (dBin gMul (dPeek 2) (dPeek 2)) (dBin gMul (dPeek 1) (dC (.int 30269)))) (dC (.int 5))) dNil)) (dC (.int 2147483587))))
  (gRet (dBin gFDiv (dPeek 2) (dC (.int 64)))))))
def f__law_mixed : List D → R D := fnV 3 g__law_mixed
/-! ### _law_bytes -/
abbrev s__law_bytes : Stmt := topS 6
def g__law_bytes_b1 : En → Out := (gIf (dAnd (dTru (dPeek 3)) (dBl (dBin gGt (dPeek 2) (dC (.int 0)))))
  (gSeq (gOwn 4 uApp (dBin gMod (dCB gInt (dCons (dPeek 2) dNil)) (dC (.int 256))))
  (gSet 2 (dBin gFDiv (dPeek 2) (dC (.int 256)))))
  (gOwn 4 uApp (dBin gMod (dCB gInt (dCons (dCall (f__law_mixed) (dCons (dVar 0) (dCons (dVar 5) dNil))) dNil)) (dC (.int 256)))))
def g__law_bytes : En → Out := (gSeq (gSet 2 (dCB gAbs (dCons (dCB gInt (dCons (dPeek 0) dNil)) dNil)))
  (gSeq (gSet 3 (dBin gGe (dPeek 2) (dBin gPow (dC (.int 10)) (dC (.int 18)))))
  (gSeq (gSetN 4 (dLst dNil))
  (gSeq (gFor (dRng (dCons (dVar 1) dNil)) (fName 5) g__law_bytes_b1)
  (gRetO 4)))))
def f__law_bytes : List D → R (List D) := fnN 6 g__law_bytes
/-! ### _law_integer -/
abbrev s__law_integer : Stmt := topS 7
def g__law_integer : En → Out := (gRet (dAndV (dBl (dCB gIsi (dCons (dPeek 0) (dCons (dC (.ty "int")) dNil)))) (dOfB (dNot (dBl (dCB gIsi (dCons (dPeek 0) (dCons (dC (.ty "bool")) dNil))))))))
def f__law_integer : List D → R D := fnV 1 g__law_integer
/-! ### _law_is_list -/
abbrev s__law_is_list : Stmt := topS 8
def g__law_is_list_b1 : En → Out := (gIf (dOr (dNot (dTru (dCall (f__law_integer) (dCons (dVar 2) dNil)))) (dBl (dBin gNe (dPeek 2) (dPeek 3))))
  (gRet (dC (.bl false)))
  gNext)
def g__law_is_list : En → Out := (gSeq (gIf (dOr (dNot (dTru (dCB gIsi (dCons (dPeek 0) (dCons (dC (.ty "list")) dNil))))) (dBl (dBin gNe (dCB gLen (dCons (dPeek 0) dNil)) (dCB gLen (dCons (dPeek 1) dNil)))))
  (gRet (dC (.bl false)))
  gNext)
  (gSeq (gFor (fun ρ => ((dCons (dVar 0) (dCons (dVar 1) dNil)) ρ).bind gzip) (fTup 2 (fCons (fName 2) (fCons (fName 3) fNil))) g__law_is_list_b1)
  (gRet (dC (.bl true)))))
def f__law_is_list : List D → R D := fnV 4 g__law_is_list
/-! ### _law_small -/
abbrev s__law_small : Stmt := topS 9
def g__law_small_b1 : En → Out := (gSet 1 (dBin gMod (dCB gInt (dCons (dBin gAdd (dBin gAdd (dBin gMul (dPeek 1) (dC (.int 257))) (dPeek 2)) (dC (.int 1))) dNil)) (dC (.int 65521))))
def g__law_small_b2 : En → Out := (gSeq (gSet 1 (dBin gMod (dCB gInt (dCons (dBin gAdd (dBin gMul (dPeek 1) (dC (.int 16807))) (dC (.int 11))) dNil)) (dC (.int 65521))))
  (gOwn 3 uApp (dBin gMod (dCB gInt (dCons (dPeek 1) dNil)) (dC (.int 256)))))
def g__law_small : En → Out := (gSeq (gSet 1 (dC (.int 1)))
  (gSeq (gFor (dIList (dVar 0)) (fName 2) g__law_small_b1)
  (gSeq (gSet 1 (dBin gMod (dCB gInt (dCons (dBin gAdd (dBin gAdd (dBin gMul (dPeek 1) (dC (.int 31))) (dCB gLen (dCons (dPeek 0) dNil))) (dC (.int 7))) dNil)) (dC (.int 65521))))
  (gSeq (gSetN 3 (dLst dNil))
  (gSeq (gFor (dRng (dCons (dC (.int 32)) dNil)) (fName 4) g__law_small_b2)
  (gRetO 3))))))
def f__law_small : List D → R (List D) := fnN 5 g__law_small
/-! ### law -/
abbrev s_law : Stmt := topS 10
def g_law_b1 : En → Out := (gSeq (gSet 9 (dNew (dCBN gList (dCons (dPeek 4) dNil))))
  (gSeq (gSet 10 (dNew (dCall (f_small_core) (dCons (dVar 9) dNil))))
  (gIf (dOr (dNot (dTru (dCall (f__law_is_list) (dCons (dVar 10) (dCons (dNew (dCall (f__law_small) (dCons (dVar 4) dNil))) dNil))))) (dBl (dBin gNe (dPeek 9) (dPeek 4))))
  (gRet (dC (.bl false)))
  gNext)))
def g_law_t2 : En → Out := (gSeq (gSet 3 (dNew (dCall (f__law_bytes) (dCons (dCall (f__law_cell) (dCons (dVar 0) (dCons (dC (.int 1)) dNil))) (dCons (dVar 2) dNil)))))
  (gSeq (gFor (dIList (dNew (dLst (dCons (dVar 3) (dCons (dNew (dBinN gCat (dPeek 3) (dNew (dLst (dCons (dC (.int 255)) dNil))))) (dCons (dNew (dBinN gRepN (dNew (dLst (dCons (dC (.int 0)) dNil))) (dBin gMod (dCB gInt (dCons (dBin gFDiv (dPeek 1) (dC (.int 61))) dNil)) (dC (.int 30))))) dNil)))))) (fName 4) g_law_b1)
  (gSeq (gSet 5 (dBin gMod (dCB gInt (dCons (dBin gFDiv (dPeek 1) (dC (.int 1830))) dNil)) (dBin gAdd (dCB gLen (dCons (dPeek 3) dNil)) (dC (.int 1)))))
  (gSeq (gSet 6 (dBin gMod (dCB gInt (dCons (dBin gFDiv (dPeek 1) (dC (.int 113460))) dNil)) (dC (.int 242))))
  (gSeq (gSet 7 (dNew (dBinN gCat (dNew (dBinN gCat (dNew (dSl (dPeek 3) oNone (oSome (dVar 5)))) (dNew (dLst (dCons (dC (.int 0)) (dCons (dBin gAdd (dPeek 6) (dC (.int 14))) dNil)))))) (dNew (dSl (dPeek 3) (oSome (dVar 5)) oNone)))))
  (gSeq (gSet 8 (dNew (dBinN gCat (dNew (dBinN gCat (dNew (dSl (dPeek 3) oNone (oSome (dVar 5)))) (dNew (dLst (dCons (dC (.int 255)) (dCons (dVar 6) dNil)))))) (dNew (dSl (dPeek 3) (oSome (dVar 5)) oNone)))))
  (gRet (dAndV (dBl (dBin gEq (dNew (dCall (f_small_core) (dCons (dVar 7) dNil))) (dNew (dCall (f_small_core) (dCons (dVar 8) dNil))))) (dBin gEq (dNew (dCall (f_small_core) (dCons (dVar 7) dNil))) (dNew (dCall (f__law_small) (dCons (dVar 8) dNil))))))))))))
def g_law : En → Out := (gSeq (gSet 1 (dCB gAbs (dCons (dCall (f__law_cell) (dCons (dVar 0) (dCons (dC (.int 0)) dNil))) dNil)))
  (gSeq (gSet 2 (dBin gMod (dCB gInt (dCons (dPeek 1) dNil)) (dC (.int 61))))
  (gSeq (gIf (dBl (dBin gEq (dBin gMod (dCB gInt (dCons (dBin gFDiv (dPeek 1) (dC (.int 61))) dNil)) (dC (.int 16))) (dC (.int 1))))
  (gSet 2 (dBin gAdd (dC (.int 61)) (dBin gMod (dCB gInt (dCons (dBin gFDiv (dPeek 1) (dC (.int 976))) dNil)) (dC (.int 16000)))))
  gNext)
  g_law_t2)))
def f_law : List D → R D := fnV 11 g_law
section
variable {P : Program} {w : World} {K : PySem.W.Frag} {mg : Str → Option Value} {base : Heap}
theorem sc_small_core : FnScope ["data", "state", "byte", "result", "turn"] ["data"] (defScope s_small_core) := ⟨rfl, rfl, rfl, by decide +kernel, rfl, by decide +kernel, by decide +kernel⟩
theorem ok_small_core {f : Addr} {fd : FuncData} (F : Fun K "small_core" "small_core" s_small_core f fd) (m_len : mg "len" = none) (m_range : mg "range" = none) (c_PRIME : ∃ t, mg "PRIME" = some (.int 65521 t)) : FnOk P w K mg base (L2.CX P w) 1 f fd ["data"] (spN K 1 f_small_core) :=
  fn_okN 5 1 g_small_core F sc_small_core rfl rfl (by decide) fun cdv A outer s H E hr C => ⟨_, (vss_cons (vs_set 1 C.nd ve_int)
  (vss_cons (vs_for C (vi_list (ve_var 0)) (vg_name 2 C.nd)
  (vss_one (vs_set 1 C.nd (ve_mod (vp_of (ve_add (vp_of (ve_add (vp_of (ve_mul (vp_var 1) (vp_of ve_int))) (vp_var 2))) (vp_of ve_int))) (vp_of (ve_gint c_PRIME))))))
  (vss_cons (vs_set 1 C.nd (ve_mod (vp_of (ve_add (vp_of (ve_add (vp_of (ve_mul (vp_var 1) (vp_of ve_int))) (vp_of (ve_len m_len (vap_cons (vp_var 0) vap_nil))))) (vp_of ve_int))) (vp_of (ve_gint c_PRIME))))
  (vss_cons (vs_setN 3 C.nd (vn_lst va_nil))
  (vss_cons (vs_for C (vi_range1 m_range (va_cons ve_int va_nil)) (vg_name 4 C.nd)
  (vss_cons (vs_set 1 C.nd (ve_mod (vp_of (ve_add (vp_of (ve_mul (vp_var 1) (vp_of ve_int))) (vp_of ve_int))) (vp_of (ve_gint c_PRIME))))
  (vss_one (vs_append 3 (ve_mod (vp_var 1) (vp_of ve_int))))))
  (vss_one (vs_retO 3)))))))⟩
theorem sc__law_cell : FnScope ["script", "k"] ["script", "k"] (defScope s__law_cell) := ⟨rfl, rfl, rfl, by decide +kernel, rfl, by decide +kernel, by decide +kernel⟩
theorem ok__law_cell {f : Addr} {fd : FuncData} (F : Fun K "_law_cell" "_law_cell" s__law_cell f fd) (m_int : mg "int" = none) (m_len : mg "len" = none) : FnOk P w K mg base (L2.CX P w) 1 f fd ["script", "k"] (spV K 2 f__law_cell) :=
  fn_ok 2 2 g__law_cell F sc__law_cell rfl rfl (by decide) fun cdv A outer s H E hr C => ⟨_, (vss_cons (vs_if (vt_cmp op_lt gI0_bl (vp_var 1) (vp_of (ve_len m_len (vap_cons (vp_var 0) vap_nil))))
  (vss_one (vs_ret (ve_intc m_int (vap_cons (vp_of (ve_ix ix_seq gIx_ok (vp_var 0) (vp_var 1))) vap_nil))))
  vss_nil)
  (vss_one (vs_ret ve_int)))⟩
theorem sc__law_mixed : FnScope ["cell", "k", "x"] ["cell", "k"] (defScope s__law_mixed) := ⟨rfl, rfl, rfl, by decide +kernel, rfl, by decide +kernel, by decide +kernel⟩
theorem ok__law_mixed {f : Addr} {fd : FuncData} (F : Fun K "_law_mixed" "_law_mixed" s__law_mixed f fd) (m_int : mg "int" = none) : FnOk P w K mg base (L2.CX P w) 1 f fd ["cell", "k"] (spV K 2 f__law_mixed) :=
  fn_ok 3 2 g__law_mixed F sc__law_mixed rfl rfl (by decide) fun cdv A outer s H E hr C => ⟨_, (vss_cons (vs_set 2 C.nd (ve_mod (vp_of (ve_intc m_int (vap_cons (vp_of (ve_add (vp_of (ve_add (vp_of (ve_mul (vp_var 0) (vp_of ve_int))) (vp_of (ve_mul (vp_var 1) (vp_of ve_int))))) (vp_of ve_int))) vap_nil))) (vp_of ve_int)))
  (vss_cons (vs_set 2 C.nd (ve_mod (vp_of (ve_intc m_int (vap_cons (vp_of (ve_add (vp_of (ve_add (vp_of (ve_mul (vp_var 2) (vp_var 2))) (vp_of (ve_mul (vp_var 1) (vp_of ve_int))))) (vp_of ve_int))) vap_nil))) (vp_of ve_int)))
  (vss_cons (vs_set 2 C.nd (ve_mod (vp_of (ve_intc m_int (vap_cons (vp_of (ve_add (vp_of (ve_add (vp_of (ve_mul (vp_var 2) (vp_var 2))) (vp_of (ve_mul (vp_var 1) (vp_of ve_int))))) (vp_of ve_int))) vap_nil))) (vp_of ve_int)))
  (vss_one (vs_ret (ve_fdiv (vp_var 2) (vp_of ve_int)))))))⟩
theorem sc__law_bytes : FnScope ["cell", "size", "left", "great", "data", "k"] ["cell", "size"] (defScope s__law_bytes) := ⟨rfl, rfl, rfl, by decide +kernel, rfl, by decide +kernel, by decide +kernel⟩
theorem ok__law_bytes {f : Addr} {fd : FuncData} (F : Fun K "_law_bytes" "_law_bytes" s__law_bytes f fd) (m_abs : mg "abs" = none) (m_int : mg "int" = none) (m_range : mg "range" = none) (F__law_mixed : DefAt P w K mg base "_law_mixed" 1 2 (spV K 2 f__law_mixed)) : FnOk P w K mg base (L2.CX P w) 2 f fd ["cell", "size"] (spN K 2 f__law_bytes) :=
  fn_okN 6 2 g__law_bytes F sc__law_bytes rfl rfl (by decide) fun cdv A outer s H E hr C => ⟨_, (vss_cons (vs_set 2 C.nd (ve_abs m_abs (vap_cons (vp_of (ve_intc m_int (vap_cons (vp_var 0) vap_nil))) vap_nil)))
  (vss_cons (vs_set 3 C.nd (ve_cmp op_ge gI0_bl (vp_var 2) (vp_of (ve_pow (vp_of ve_int) (vp_of ve_int)))))
  (vss_cons (vs_setN 4 C.nd (vn_lst va_nil))
  (vss_cons (vs_for C (vi_range1 m_range (va_cons (ve_var 1) va_nil)) (vg_name 5 C.nd)
  (vss_one (vs_if (vw_pt (vw_and (vt_truth (vp_var 3)) (vw_and1 (vt_cmp op_gt gI0_bl (vp_var 2) (vp_of ve_int)))))
  (vss_cons (vs_append 4 (ve_mod (vp_of (ve_intc m_int (vap_cons (vp_var 2) vap_nil))) (vp_of ve_int)))
  (vss_one (vs_set 2 C.nd (ve_fdiv (vp_var 2) (vp_of ve_int)))))
  (vss_one (vs_append 4 (ve_mod (vp_of (ve_intc m_int (vap_cons (vp_of (ve_call F__law_mixed (hr.mono (by decide)) C.tk (va_cons (ve_var 0) (va_cons (ve_var 5) va_nil)))) vap_nil))) (vp_of ve_int)))))))
  (vss_one (vs_retO 4))))))⟩
theorem sc__law_integer : FnScope ["value"] ["value"] (defScope s__law_integer) := ⟨rfl, rfl, rfl, by decide +kernel, rfl, by decide +kernel, by decide +kernel⟩
theorem ok__law_integer {f : Addr} {fd : FuncData} (F : Fun K "_law_integer" "_law_integer" s__law_integer f fd) (m_bool : mg "bool" = none) (m_int : mg "int" = none) (m_isinstance : mg "isinstance" = none) : FnOk P w K mg base (L2.CX P w) 1 f fd ["value"] (spV K 1 f__law_integer) :=
  fn_ok 1 1 g__law_integer F sc__law_integer rfl rfl (by decide) fun cdv A outer s H E hr C => ⟨_, (vss_one (vs_ret (ve_and (ve_isi m_isinstance (vap_cons (vp_var 0) (vap_cons (vp_of (ve_bltn m_int (u := .type "int") (v := .ty "int") (by decide +kernel) rfl (fun _ => .ty _))) vap_nil))) (ve_one (ve_not (ve_isi m_isinstance (vap_cons (vp_var 0) (vap_cons (vp_of (ve_bltn m_bool (u := .type "bool") (v := .ty "bool") (by decide +kernel) rfl (fun _ => .ty _))) vap_nil))))))))⟩
theorem sc__law_is_list : FnScope ["found", "due", "one", "other"] ["found", "due"] (defScope s__law_is_list) := ⟨rfl, rfl, rfl, by decide +kernel, rfl, by decide +kernel, by decide +kernel⟩
theorem ok__law_is_list {f : Addr} {fd : FuncData} (F : Fun K "_law_is_list" "_law_is_list" s__law_is_list f fd) (m_isinstance : mg "isinstance" = none) (m_len : mg "len" = none) (m_list : mg "list" = none) (m_zip : mg "zip" = none) (F__law_integer : DefAt P w K mg base "_law_integer" 1 1 (spV K 1 f__law_integer)) : FnOk P w K mg base (L2.CX P w) 2 f fd ["found", "due"] (spV K 2 f__law_is_list) :=
  fn_ok 4 2 g__law_is_list F sc__law_is_list rfl rfl (by decide) fun cdv A outer s H E hr C => ⟨_, (vss_cons (vs_if (vw_pt (vw_or (vt_not (vt_truth (vp_of (ve_isi m_isinstance (vap_cons (vp_var 0) (vap_cons (vp_of (ve_bltn m_list (u := .type "list") (v := .ty "list") (by decide +kernel) rfl (fun _ => .ty _))) vap_nil)))))) (vw_or1 (vt_cmp (op_neD hr.units) gNe_ok (vp_of (ve_len m_len (vap_cons (vp_var 0) vap_nil))) (vp_of (ve_len m_len (vap_cons (vp_var 1) vap_nil)))))))
  (vss_one (vs_ret ve_bl))
  vss_nil)
  (vss_cons (vs_for C (vi_zip m_zip (va_cons (ve_var 0) (va_cons (ve_var 1) va_nil)) (fun h => pi_zip (by rfl) m_zip h)) (vg_tup rfl (vgs_cons (vg_name 2 C.nd) (vgs_cons (vg_name 3 C.nd) vgs_nil)))
  (vss_one (vs_if (vw_pt (vw_or (vt_not (vt_truth (vp_of (ve_call F__law_integer (hr.mono (by decide)) C.tk (va_cons (ve_var 2) va_nil))))) (vw_or1 (vt_cmp (op_neD hr.units) gNe_ok (vp_var 2) (vp_var 3)))))
  (vss_one (vs_ret ve_bl))
  vss_nil)))
  (vss_one (vs_ret ve_bl))))⟩
theorem sc__law_small : FnScope ["data", "state", "byte", "result", "turn"] ["data"] (defScope s__law_small) := ⟨rfl, rfl, rfl, by decide +kernel, rfl, by decide +kernel, by decide +kernel⟩
theorem ok__law_small {f : Addr} {fd : FuncData} (F : Fun K "_law_small" "_law_small" s__law_small f fd) (m_int : mg "int" = none) (m_len : mg "len" = none) (m_range : mg "range" = none) : FnOk P w K mg base (L2.CX P w) 1 f fd ["data"] (spN K 1 f__law_small) :=
  fn_okN 5 1 g__law_small F sc__law_small rfl rfl (by decide) fun cdv A outer s H E hr C => ⟨_, (vss_cons (vs_set 1 C.nd ve_int)
  (vss_cons (vs_for C (vi_list (ve_var 0)) (vg_name 2 C.nd)
  (vss_one (vs_set 1 C.nd (ve_mod (vp_of (ve_intc m_int (vap_cons (vp_of (ve_add (vp_of (ve_add (vp_of (ve_mul (vp_var 1) (vp_of ve_int))) (vp_var 2))) (vp_of ve_int))) vap_nil))) (vp_of ve_int)))))
  (vss_cons (vs_set 1 C.nd (ve_mod (vp_of (ve_intc m_int (vap_cons (vp_of (ve_add (vp_of (ve_add (vp_of (ve_mul (vp_var 1) (vp_of ve_int))) (vp_of (ve_len m_len (vap_cons (vp_var 0) vap_nil))))) (vp_of ve_int))) vap_nil))) (vp_of ve_int)))
  (vss_cons (vs_setN 3 C.nd (vn_lst va_nil))
  (vss_cons (vs_for C (vi_range1 m_range (va_cons ve_int va_nil)) (vg_name 4 C.nd)
  (vss_cons (vs_set 1 C.nd (ve_mod (vp_of (ve_intc m_int (vap_cons (vp_of (ve_add (vp_of (ve_mul (vp_var 1) (vp_of ve_int))) (vp_of ve_int))) vap_nil))) (vp_of ve_int)))
  (vss_one (vs_append 3 (ve_mod (vp_of (ve_intc m_int (vap_cons (vp_var 1) vap_nil))) (vp_of ve_int))))))
  (vss_one (vs_retO 3)))))))⟩
theorem sc_law : FnScope ["script", "cell", "size", "data", "row", "at", "low", "one", "other", "given", "found"] ["script"] (defScope s_law) := ⟨rfl, rfl, rfl, by decide +kernel, rfl, by decide +kernel, by decide +kernel⟩
theorem ok_law {f : Addr} {fd : FuncData} (F : Fun K "law" "law" s_law f fd) (m_abs : mg "abs" = none) (m_int : mg "int" = none) (m_len : mg "len" = none) (m_list : mg "list" = none) (F__law_bytes : DefAt P w K mg base "_law_bytes" 2 2 (spN K 2 f__law_bytes)) (F__law_cell : DefAt P w K mg base "_law_cell" 1 2 (spV K 2 f__law_cell)) (F__law_is_list : DefAt P w K mg base "_law_is_list" 2 2 (spV K 2 f__law_is_list)) (F__law_small : DefAt P w K mg base "_law_small" 1 1 (spN K 1 f__law_small)) (F_small_core : DefAt P w K mg base "small_core" 1 1 (spN K 1 f_small_core)) : FnOk P w K mg base (L2.CX P w) 3 f fd ["script"] (spV K 1 f_law) :=
  fn_ok 11 1 g_law F sc_law rfl rfl (by decide) fun cdv A outer s H E hr C => ⟨_, (vss_cons (vs_set 1 C.nd (ve_abs m_abs (vap_cons (vp_of (ve_call F__law_cell (hr.mono (by decide)) C.tk (va_cons (ve_var 0) (va_cons ve_int va_nil)))) vap_nil)))
  (vss_cons (vs_set 2 C.nd (ve_mod (vp_of (ve_intc m_int (vap_cons (vp_var 1) vap_nil))) (vp_of ve_int)))
  (vss_cons (vs_if (vt_cmp (op_eqD hr.units) gEq_ok (vp_of (ve_mod (vp_of (ve_intc m_int (vap_cons (vp_of (ve_fdiv (vp_var 1) (vp_of ve_int))) vap_nil))) (vp_of ve_int))) (vp_of ve_int))
  (vss_one (vs_set 2 C.nd (ve_add (vp_of ve_int) (vp_of (ve_mod (vp_of (ve_intc m_int (vap_cons (vp_of (ve_fdiv (vp_var 1) (vp_of ve_int))) vap_nil))) (vp_of ve_int))))))
  vss_nil)
  (vss_cons (vs_set 3 C.nd (vn_ve (vn_call F__law_bytes (hr.mono (by decide)) C.tk (va_cons (ve_call F__law_cell (hr.mono (by decide)) C.tk (va_cons (ve_var 0) (va_cons ve_int va_nil))) (va_cons (ve_var 2) va_nil)))))
  (vss_cons (vs_for C (vi_list (vn_ve (vn_lst (va_cons (ve_var 3) (va_cons (vn_ve (vn_cat (vp_var 3) (vp_of (vn_ve (vn_lst (va_cons ve_int va_nil)))))) (va_cons (vn_ve (vn_rep (vp_of (vn_ve (vn_lst (va_cons ve_int va_nil)))) (vp_of (ve_mod (vp_of (ve_intc m_int (vap_cons (vp_of (ve_fdiv (vp_var 1) (vp_of ve_int))) vap_nil))) (vp_of ve_int))))) va_nil)))))) (vg_name 4 C.nd)
  (vss_cons (vs_set 9 C.nd (vn_ve (vn_list m_list (vap_cons (vp_var 4) vap_nil))))
  (vss_cons (vs_set 10 C.nd (vn_ve (vn_call F_small_core (hr.mono (by decide)) C.tk (va_cons (ve_var 9) va_nil))))
  (vss_one (vs_if (vw_pt (vw_or (vt_not (vt_truth (vp_of (ve_call F__law_is_list (hr.mono (by decide)) C.tk (va_cons (ve_var 10) (va_cons (vn_ve (vn_call F__law_small (hr.mono (by decide)) C.tk (va_cons (ve_var 4) va_nil))) va_nil)))))) (vw_or1 (vt_cmp (op_neD hr.units) gNe_ok (vp_var 9) (vp_var 4)))))
  (vss_one (vs_ret ve_bl))
  vss_nil)))))
  (vss_cons (vs_set 5 C.nd (ve_mod (vp_of (ve_intc m_int (vap_cons (vp_of (ve_fdiv (vp_var 1) (vp_of ve_int))) vap_nil))) (vp_of (ve_add (vp_of (ve_len m_len (vap_cons (vp_var 3) vap_nil))) (vp_of ve_int)))))
  (vss_cons (vs_set 6 C.nd (ve_mod (vp_of (ve_intc m_int (vap_cons (vp_of (ve_fdiv (vp_var 1) (vp_of ve_int))) vap_nil))) (vp_of ve_int)))
  (vss_cons (vs_set 7 C.nd (vn_ve (vn_cat (vp_of (vn_ve (vn_cat (vp_of (vn_ve (vn_slice (vp_var 3) vo_none (vo_some (ve_var 5))))) (vp_of (vn_ve (vn_lst (va_cons ve_int (va_cons (ve_add (vp_var 6) (vp_of ve_int)) va_nil)))))))) (vp_of (vn_ve (vn_slice (vp_var 3) (vo_some (ve_var 5)) vo_none))))))
  (vss_cons (vs_set 8 C.nd (vn_ve (vn_cat (vp_of (vn_ve (vn_cat (vp_of (vn_ve (vn_slice (vp_var 3) vo_none (vo_some (ve_var 5))))) (vp_of (vn_ve (vn_lst (va_cons ve_int (va_cons (ve_var 6) va_nil)))))))) (vp_of (vn_ve (vn_slice (vp_var 3) (vo_some (ve_var 5)) vo_none))))))
  (vss_one (vs_ret (ve_and (ve_cmp (op_eqD hr.units) gEq_ok (vp_of (vn_ve (vn_call F_small_core (hr.mono (by decide)) C.tk (va_cons (ve_var 7) va_nil)))) (vp_of (vn_ve (vn_call F_small_core (hr.mono (by decide)) C.tk (va_cons (ve_var 8) va_nil))))) (ve_one (ve_cmp (op_eqD hr.units) gEq_ok (vp_of (vn_ve (vn_call F_small_core (hr.mono (by decide)) C.tk (va_cons (ve_var 7) va_nil)))) (vp_of (vn_ve (vn_call F__law_small (hr.mono (by decide)) C.tk (va_cons (ve_var 8) va_nil))))))))))))))))))⟩
end
end VL
set_option maxRecDepth 100000
set_option maxHeartbeats 1000000
namespace VL
open PySem PySem.Spec PyProof.Rows L2
/-! ### small_core -/
def sc1 (s b : Int) : Int := (s * 257 + b + 1) % 65521
def sc2 (p : Int × List Int) : Int × List Int := ((p.1 * 16807 + 11) % 65521, p.2 ++ [(p.1 * 16807 + 11) % 65521 % 256])
def smallCore (data : List Int) : List Int := ((List.range 32).foldl (fun p _ => sc2 p) (((data.foldl sc1 1) * 31 + data.length + 7) % 65521, [])).2
theorem small_core_ok (data : List Int) : f_small_core [.lst (iL data)] = .ok (iL (smallCore data)) := by
  obtain ⟨j, e1⟩ := for_fold (gf := fName 2) (gb := g_small_core_b1) D.int (fun (s : Int) (j : Sl) => [.v (.lst (iL data)), .v (.int s), j, .un, .un]) sc1 data 1 .un
    (fun x a j hx => by
      refine ⟨_, .v (.int x), rfl, .inl ?_⟩
      unfold g_small_core_b1
      simp -implicitDefEqProofs only [fnV, fnN, finV, finN, startE, gSeq, gLet, gSet, gSetN, gRet, gRetN, gRetO, gRet0, gDrop, gIf, gNext, gOwn, gFreeze, gFor, gUnp, gPar, gSetIx, gBreak, gCont, dVar, dPeek, dC, dNew, dBin, dBinN, dUn, dBl, dIf, dAnd, dOr, dNot, dAndV, dOrV, dOfB, dNil, dCons, dCall, dCB, dCBN, dTru, dTup, dLst, dPair, dSl, oNone, oSome, ofO, dChain, chK, dIList, dITup, dRng, dLc, wipeE, R.bind_ok, R.bind_er, R.bind_no, fName, fTup, fCons, fNil, fLst, oTru, gAdd_i, gSub_i, gLt_i, gLe_i, gGt_i, gGe_i, gEq_i, gNe_i, gAnd_i, gOr_i, gXor_i, gLen_l, gLen_r, gLen_t, gLen_c, gIsi_e, tyD, kb_int_int, kb_int_bool, kb_int_list, kb_int_tuple, kb_bool_int, kb_bool_bool, kb_bool_list, kb_list_list, kb_list_int, kb_list_bool, kb_list_tuple, kb_tuple_tuple, kb_tuple_list, kb_tuple_int, kb_str_str, kb_str_int, kb_str_list, kb_non_list, kb_non_int, gList_l, gList_r, gList_t, gList_c, gzip_l, genum_l, gInt_i, gInt_b, gAbs_i, List.getElem?_cons_zero, List.getElem?_cons_succ, List.set_cons_zero, List.set_cons_succ, List.map_cons, List.map_nil, List.length_cons, List.length_nil, iL_len, Nat.reduceAdd, Nat.reduceSub, List.replicate_succ, List.replicate_zero, List.cons_append, List.nil_append, Nat.zero_add, Option.bind_some, Option.map_some, if_true, if_false, Bool.false_eq_true, Bool.not_true, Bool.not_false, eq_self, reduceCtorEq, Nat.sub_self, List.append_nil, gMul_r (j := 257) (by decide), gMod_i (j := 65521) (by decide), sc1])
  obtain ⟨j2, e2, _⟩ := for_map (gf := fName 4) (gb := g_small_core_b2) (fun (i : Nat) => D.int (i : Int)) (fun (p : Int × List Int) (j' : Sl) => [.v (.lst (iL data)), .v (.int p.1), j, .o (iL p.2), j']) (fun p _ => sc2 p) (fun pre p => p.2.length = pre.length) (List.range 32) (((data.foldl sc1 1) * 31 + data.length + 7) % 65521, []) .un rfl
    (fun pre x post a j' hx hi => by
      have hl : pre.length < 32 := by
        have := congrArg List.length hx
        simp at this
        omega
      refine ⟨_, .v (.int x), rfl, .inl ?_, by simp [sc2, hi]⟩
      unfold g_small_core_b2
      simp -implicitDefEqProofs only [fnV, fnN, finV, finN, startE, gSeq, gLet, gSet, gSetN, gRet, gRetN, gRetO, gRet0, gDrop, gIf, gNext, gOwn, gFreeze, gFor, gUnp, gPar, gSetIx, gBreak, gCont, dVar, dPeek, dC, dNew, dBin, dBinN, dUn, dBl, dIf, dAnd, dOr, dNot, dAndV, dOrV, dOfB, dNil, dCons, dCall, dCB, dCBN, dTru, dTup, dLst, dPair, dSl, oNone, oSome, ofO, dChain, chK, dIList, dITup, dRng, dLc, wipeE, R.bind_ok, R.bind_er, R.bind_no, fName, fTup, fCons, fNil, fLst, oTru, gAdd_i, gSub_i, gLt_i, gLe_i, gGt_i, gGe_i, gEq_i, gNe_i, gAnd_i, gOr_i, gXor_i, gLen_l, gLen_r, gLen_t, gLen_c, gIsi_e, tyD, kb_int_int, kb_int_bool, kb_int_list, kb_int_tuple, kb_bool_int, kb_bool_bool, kb_bool_list, kb_list_list, kb_list_int, kb_list_bool, kb_list_tuple, kb_tuple_tuple, kb_tuple_list, kb_tuple_int, kb_str_str, kb_str_int, kb_str_list, kb_non_list, kb_non_int, gList_l, gList_r, gList_t, gList_c, gzip_l, genum_l, gInt_i, gInt_b, gAbs_i, List.getElem?_cons_zero, List.getElem?_cons_succ, List.set_cons_zero, List.set_cons_succ, List.map_cons, List.map_nil, List.length_cons, List.length_nil, iL_len, Nat.reduceAdd, Nat.reduceSub, List.replicate_succ, List.replicate_zero, List.cons_append, List.nil_append, Nat.zero_add, Option.bind_some, Option.map_some, if_true, if_false, Bool.false_eq_true, Bool.not_true, Bool.not_false, eq_self, reduceCtorEq, Nat.sub_self, List.append_nil, gMul_r (j := 16807) (by decide), gMod_i (j := 65521) (by decide), gMod_i (j := 256) (by decide), uApp_l (show (iL a.2).length < sizeLine from line_of (by rw [iL_len]; omega)), iL_app, sc2])
  refine fnN_rn ?_
  unfold g_small_core
  refine (seq_nx (by (simp -implicitDefEqProofs only [fnV, fnN, finV, finN, startE, gSeq, gLet, gSet, gSetN, gRet, gRetN, gRetO, gRet0, gDrop, gIf, gNext, gOwn, gFreeze, gFor, gUnp, gPar, gSetIx, gBreak, gCont, dVar, dPeek, dC, dNew, dBin, dBinN, dUn, dBl, dIf, dAnd, dOr, dNot, dAndV, dOrV, dOfB, dNil, dCons, dCall, dCB, dCBN, dTru, dTup, dLst, dPair, dSl, oNone, oSome, ofO, dChain, chK, dIList, dITup, dRng, dLc, wipeE, R.bind_ok, R.bind_er, R.bind_no, fName, fTup, fCons, fNil, fLst, oTru, gAdd_i, gSub_i, gLt_i, gLe_i, gGt_i, gGe_i, gEq_i, gNe_i, gAnd_i, gOr_i, gXor_i, gLen_l, gLen_r, gLen_t, gLen_c, gIsi_e, tyD, kb_int_int, kb_int_bool, kb_int_list, kb_int_tuple, kb_bool_int, kb_bool_bool, kb_bool_list, kb_list_list, kb_list_int, kb_list_bool, kb_list_tuple, kb_tuple_tuple, kb_tuple_list, kb_tuple_int, kb_str_str, kb_str_int, kb_str_list, kb_non_list, kb_non_int, gList_l, gList_r, gList_t, gList_c, gzip_l, genum_l, gInt_i, gInt_b, gAbs_i, List.getElem?_cons_zero, List.getElem?_cons_succ, List.set_cons_zero, List.set_cons_succ, List.map_cons, List.map_nil, List.length_cons, List.length_nil, iL_len, Nat.reduceAdd, Nat.reduceSub, List.replicate_succ, List.replicate_zero, List.cons_append, List.nil_append, Nat.zero_add, Option.bind_some, Option.map_some, if_true, if_false, Bool.false_eq_true, Bool.not_true, Bool.not_false, eq_self, reduceCtorEq, Nat.sub_self, List.append_nil]) <;> rfl)).trans ?_
  refine (seq_nx (for_step (ds := iL data) rfl e1)).trans ?_
  refine (seq_nx (by (simp -implicitDefEqProofs only [fnV, fnN, finV, finN, startE, gSeq, gLet, gSet, gSetN, gRet, gRetN, gRetO, gRet0, gDrop, gIf, gNext, gOwn, gFreeze, gFor, gUnp, gPar, gSetIx, gBreak, gCont, dVar, dPeek, dC, dNew, dBin, dBinN, dUn, dBl, dIf, dAnd, dOr, dNot, dAndV, dOrV, dOfB, dNil, dCons, dCall, dCB, dCBN, dTru, dTup, dLst, dPair, dSl, oNone, oSome, ofO, dChain, chK, dIList, dITup, dRng, dLc, wipeE, R.bind_ok, R.bind_er, R.bind_no, fName, fTup, fCons, fNil, fLst, oTru, gAdd_i, gSub_i, gLt_i, gLe_i, gGt_i, gGe_i, gEq_i, gNe_i, gAnd_i, gOr_i, gXor_i, gLen_l, gLen_r, gLen_t, gLen_c, gIsi_e, tyD, kb_int_int, kb_int_bool, kb_int_list, kb_int_tuple, kb_bool_int, kb_bool_bool, kb_bool_list, kb_list_list, kb_list_int, kb_list_bool, kb_list_tuple, kb_tuple_tuple, kb_tuple_list, kb_tuple_int, kb_str_str, kb_str_int, kb_str_list, kb_non_list, kb_non_int, gList_l, gList_r, gList_t, gList_c, gzip_l, genum_l, gInt_i, gInt_b, gAbs_i, List.getElem?_cons_zero, List.getElem?_cons_succ, List.set_cons_zero, List.set_cons_succ, List.map_cons, List.map_nil, List.length_cons, List.length_nil, iL_len, Nat.reduceAdd, Nat.reduceSub, List.replicate_succ, List.replicate_zero, List.cons_append, List.nil_append, Nat.zero_add, Option.bind_some, Option.map_some, if_true, if_false, Bool.false_eq_true, Bool.not_true, Bool.not_false, eq_self, reduceCtorEq, Nat.sub_self, List.append_nil, gMul_r (j := 31) (by decide), gMod_i (j := 65521) (by decide)]) <;> rfl)).trans ?_
  refine (seq_nx (by (simp -implicitDefEqProofs only [fnV, fnN, finV, finN, startE, gSeq, gLet, gSet, gSetN, gRet, gRetN, gRetO, gRet0, gDrop, gIf, gNext, gOwn, gFreeze, gFor, gUnp, gPar, gSetIx, gBreak, gCont, dVar, dPeek, dC, dNew, dBin, dBinN, dUn, dBl, dIf, dAnd, dOr, dNot, dAndV, dOrV, dOfB, dNil, dCons, dCall, dCB, dCBN, dTru, dTup, dLst, dPair, dSl, oNone, oSome, ofO, dChain, chK, dIList, dITup, dRng, dLc, wipeE, R.bind_ok, R.bind_er, R.bind_no, fName, fTup, fCons, fNil, fLst, oTru, gAdd_i, gSub_i, gLt_i, gLe_i, gGt_i, gGe_i, gEq_i, gNe_i, gAnd_i, gOr_i, gXor_i, gLen_l, gLen_r, gLen_t, gLen_c, gIsi_e, tyD, kb_int_int, kb_int_bool, kb_int_list, kb_int_tuple, kb_bool_int, kb_bool_bool, kb_bool_list, kb_list_list, kb_list_int, kb_list_bool, kb_list_tuple, kb_tuple_tuple, kb_tuple_list, kb_tuple_int, kb_str_str, kb_str_int, kb_str_list, kb_non_list, kb_non_int, gList_l, gList_r, gList_t, gList_c, gzip_l, genum_l, gInt_i, gInt_b, gAbs_i, List.getElem?_cons_zero, List.getElem?_cons_succ, List.set_cons_zero, List.set_cons_succ, List.map_cons, List.map_nil, List.length_cons, List.length_nil, iL_len, Nat.reduceAdd, Nat.reduceSub, List.replicate_succ, List.replicate_zero, List.cons_append, List.nil_append, Nat.zero_add, Option.bind_some, Option.map_some, if_true, if_false, Bool.false_eq_true, Bool.not_true, Bool.not_false, eq_self, reduceCtorEq, Nat.sub_self, List.append_nil, Nat.zero_le]) <;> rfl)).trans ?_
  refine (seq_nx (for_step (dRng_1 (n := 32) rfl (by decide)) (by rw [rngD_0]; exact e2))).trans ?_
  rfl
end VL
namespace VL
open PySem PySem.Spec PyProof.Rows L2
theorem law_small_ok (data : List Int) : f__law_small [.lst (iL data)] = .ok (iL (smallCore data)) := by
  obtain ⟨j, e1⟩ := for_fold (gf := fName 2) (gb := g__law_small_b1) D.int (fun (s : Int) (j : Sl) => [.v (.lst (iL data)), .v (.int s), j, .un, .un]) sc1 data 1 .un
    (fun x a j hx => by
      refine ⟨_, .v (.int x), rfl, .inl ?_⟩
      unfold g__law_small_b1
      simp -implicitDefEqProofs only [fnV, fnN, finV, finN, startE, gSeq, gLet, gSet, gSetN, gRet, gRetN, gRetO, gRet0, gDrop, gIf, gNext, gOwn, gFreeze, gFor, gUnp, gPar, gSetIx, gBreak, gCont, dVar, dPeek, dC, dNew, dBin, dBinN, dUn, dBl, dIf, dAnd, dOr, dNot, dAndV, dOrV, dOfB, dNil, dCons, dCall, dCB, dCBN, dTru, dTup, dLst, dPair, dSl, oNone, oSome, ofO, dChain, chK, dIList, dITup, dRng, dLc, wipeE, R.bind_ok, R.bind_er, R.bind_no, fName, fTup, fCons, fNil, fLst, oTru, gAdd_i, gSub_i, gLt_i, gLe_i, gGt_i, gGe_i, gEq_i, gNe_i, gAnd_i, gOr_i, gXor_i, gLen_l, gLen_r, gLen_t, gLen_c, gIsi_e, tyD, kb_int_int, kb_int_bool, kb_int_list, kb_int_tuple, kb_bool_int, kb_bool_bool, kb_bool_list, kb_list_list, kb_list_int, kb_list_bool, kb_list_tuple, kb_tuple_tuple, kb_tuple_list, kb_tuple_int, kb_str_str, kb_str_int, kb_str_list, kb_non_list, kb_non_int, gList_l, gList_r, gList_t, gList_c, gzip_l, genum_l, gInt_i, gInt_b, gAbs_i, List.getElem?_cons_zero, List.getElem?_cons_succ, List.set_cons_zero, List.set_cons_succ, List.map_cons, List.map_nil, List.length_cons, List.length_nil, iL_len, Nat.reduceAdd, Nat.reduceSub, List.replicate_succ, List.replicate_zero, List.cons_append, List.nil_append, Nat.zero_add, Option.bind_some, Option.map_some, if_true, if_false, Bool.false_eq_true, Bool.not_true, Bool.not_false, eq_self, reduceCtorEq, Nat.sub_self, List.append_nil, gMul_r (j := 257) (by decide), gMod_i (j := 65521) (by decide), sc1])
  obtain ⟨j2, e2, _⟩ := for_map (gf := fName 4) (gb := g__law_small_b2) (fun (i : Nat) => D.int (i : Int)) (fun (p : Int × List Int) (j' : Sl) => [.v (.lst (iL data)), .v (.int p.1), j, .o (iL p.2), j']) (fun p _ => sc2 p) (fun pre p => p.2.length = pre.length) (List.range 32) (((data.foldl sc1 1) * 31 + data.length + 7) % 65521, []) .un rfl
    (fun pre x post a j' hx hi => by
      have hl : pre.length < 32 := by
        have := congrArg List.length hx
        simp at this
        omega
      refine ⟨_, .v (.int x), rfl, .inl ?_, by simp [sc2, hi]⟩
      unfold g__law_small_b2
      simp -implicitDefEqProofs only [fnV, fnN, finV, finN, startE, gSeq, gLet, gSet, gSetN, gRet, gRetN, gRetO, gRet0, gDrop, gIf, gNext, gOwn, gFreeze, gFor, gUnp, gPar, gSetIx, gBreak, gCont, dVar, dPeek, dC, dNew, dBin, dBinN, dUn, dBl, dIf, dAnd, dOr, dNot, dAndV, dOrV, dOfB, dNil, dCons, dCall, dCB, dCBN, dTru, dTup, dLst, dPair, dSl, oNone, oSome, ofO, dChain, chK, dIList, dITup, dRng, dLc, wipeE, R.bind_ok, R.bind_er, R.bind_no, fName, fTup, fCons, fNil, fLst, oTru, gAdd_i, gSub_i, gLt_i, gLe_i, gGt_i, gGe_i, gEq_i, gNe_i, gAnd_i, gOr_i, gXor_i, gLen_l, gLen_r, gLen_t, gLen_c, gIsi_e, tyD, kb_int_int, kb_int_bool, kb_int_list, kb_int_tuple, kb_bool_int, kb_bool_bool, kb_bool_list, kb_list_list, kb_list_int, kb_list_bool, kb_list_tuple, kb_tuple_tuple, kb_tuple_list, kb_tuple_int, kb_str_str, kb_str_int, kb_str_list, kb_non_list, kb_non_int, gList_l, gList_r, gList_t, gList_c, gzip_l, genum_l, gInt_i, gInt_b, gAbs_i, List.getElem?_cons_zero, List.getElem?_cons_succ, List.set_cons_zero, List.set_cons_succ, List.map_cons, List.map_nil, List.length_cons, List.length_nil, iL_len, Nat.reduceAdd, Nat.reduceSub, List.replicate_succ, List.replicate_zero, List.cons_append, List.nil_append, Nat.zero_add, Option.bind_some, Option.map_some, if_true, if_false, Bool.false_eq_true, Bool.not_true, Bool.not_false, eq_self, reduceCtorEq, Nat.sub_self, List.append_nil, gMul_r (j := 16807) (by decide), gMod_i (j := 65521) (by decide), gMod_i (j := 256) (by decide), uApp_l (show (iL a.2).length < sizeLine from line_of (by rw [iL_len]; omega)), iL_app, sc2])
  refine fnN_rn ?_
  unfold g__law_small
  refine (seq_nx (by (simp -implicitDefEqProofs only [fnV, fnN, finV, finN, startE, gSeq, gLet, gSet, gSetN, gRet, gRetN, gRetO, gRet0, gDrop, gIf, gNext, gOwn, gFreeze, gFor, gUnp, gPar, gSetIx, gBreak, gCont, dVar, dPeek, dC, dNew, dBin, dBinN, dUn, dBl, dIf, dAnd, dOr, dNot, dAndV, dOrV, dOfB, dNil, dCons, dCall, dCB, dCBN, dTru, dTup, dLst, dPair, dSl, oNone, oSome, ofO, dChain, chK, dIList, dITup, dRng, dLc, wipeE, R.bind_ok, R.bind_er, R.bind_no, fName, fTup, fCons, fNil, fLst, oTru, gAdd_i, gSub_i, gLt_i, gLe_i, gGt_i, gGe_i, gEq_i, gNe_i, gAnd_i, gOr_i, gXor_i, gLen_l, gLen_r, gLen_t, gLen_c, gIsi_e, tyD, kb_int_int, kb_int_bool, kb_int_list, kb_int_tuple, kb_bool_int, kb_bool_bool, kb_bool_list, kb_list_list, kb_list_int, kb_list_bool, kb_list_tuple, kb_tuple_tuple, kb_tuple_list, kb_tuple_int, kb_str_str, kb_str_int, kb_str_list, kb_non_list, kb_non_int, gList_l, gList_r, gList_t, gList_c, gzip_l, genum_l, gInt_i, gInt_b, gAbs_i, List.getElem?_cons_zero, List.getElem?_cons_succ, List.set_cons_zero, List.set_cons_succ, List.map_cons, List.map_nil, List.length_cons, List.length_nil, iL_len, Nat.reduceAdd, Nat.reduceSub, List.replicate_succ, List.replicate_zero, List.cons_append, List.nil_append, Nat.zero_add, Option.bind_some, Option.map_some, if_true, if_false, Bool.false_eq_true, Bool.not_true, Bool.not_false, eq_self, reduceCtorEq, Nat.sub_self, List.append_nil]) <;> rfl)).trans ?_
  refine (seq_nx (for_step (ds := iL data) rfl e1)).trans ?_
  refine (seq_nx (by (simp -implicitDefEqProofs only [fnV, fnN, finV, finN, startE, gSeq, gLet, gSet, gSetN, gRet, gRetN, gRetO, gRet0, gDrop, gIf, gNext, gOwn, gFreeze, gFor, gUnp, gPar, gSetIx, gBreak, gCont, dVar, dPeek, dC, dNew, dBin, dBinN, dUn, dBl, dIf, dAnd, dOr, dNot, dAndV, dOrV, dOfB, dNil, dCons, dCall, dCB, dCBN, dTru, dTup, dLst, dPair, dSl, oNone, oSome, ofO, dChain, chK, dIList, dITup, dRng, dLc, wipeE, R.bind_ok, R.bind_er, R.bind_no, fName, fTup, fCons, fNil, fLst, oTru, gAdd_i, gSub_i, gLt_i, gLe_i, gGt_i, gGe_i, gEq_i, gNe_i, gAnd_i, gOr_i, gXor_i, gLen_l, gLen_r, gLen_t, gLen_c, gIsi_e, tyD, kb_int_int, kb_int_bool, kb_int_list, kb_int_tuple, kb_bool_int, kb_bool_bool, kb_bool_list, kb_list_list, kb_list_int, kb_list_bool, kb_list_tuple, kb_tuple_tuple, kb_tuple_list, kb_tuple_int, kb_str_str, kb_str_int, kb_str_list, kb_non_list, kb_non_int, gList_l, gList_r, gList_t, gList_c, gzip_l, genum_l, gInt_i, gInt_b, gAbs_i, List.getElem?_cons_zero, List.getElem?_cons_succ, List.set_cons_zero, List.set_cons_succ, List.map_cons, List.map_nil, List.length_cons, List.length_nil, iL_len, Nat.reduceAdd, Nat.reduceSub, List.replicate_succ, List.replicate_zero, List.cons_append, List.nil_append, Nat.zero_add, Option.bind_some, Option.map_some, if_true, if_false, Bool.false_eq_true, Bool.not_true, Bool.not_false, eq_self, reduceCtorEq, Nat.sub_self, List.append_nil, gMul_r (j := 31) (by decide), gMod_i (j := 65521) (by decide)]) <;> rfl)).trans ?_
  refine (seq_nx (by (simp -implicitDefEqProofs only [fnV, fnN, finV, finN, startE, gSeq, gLet, gSet, gSetN, gRet, gRetN, gRetO, gRet0, gDrop, gIf, gNext, gOwn, gFreeze, gFor, gUnp, gPar, gSetIx, gBreak, gCont, dVar, dPeek, dC, dNew, dBin, dBinN, dUn, dBl, dIf, dAnd, dOr, dNot, dAndV, dOrV, dOfB, dNil, dCons, dCall, dCB, dCBN, dTru, dTup, dLst, dPair, dSl, oNone, oSome, ofO, dChain, chK, dIList, dITup, dRng, dLc, wipeE, R.bind_ok, R.bind_er, R.bind_no, fName, fTup, fCons, fNil, fLst, oTru, gAdd_i, gSub_i, gLt_i, gLe_i, gGt_i, gGe_i, gEq_i, gNe_i, gAnd_i, gOr_i, gXor_i, gLen_l, gLen_r, gLen_t, gLen_c, gIsi_e, tyD, kb_int_int, kb_int_bool, kb_int_list, kb_int_tuple, kb_bool_int, kb_bool_bool, kb_bool_list, kb_list_list, kb_list_int, kb_list_bool, kb_list_tuple, kb_tuple_tuple, kb_tuple_list, kb_tuple_int, kb_str_str, kb_str_int, kb_str_list, kb_non_list, kb_non_int, gList_l, gList_r, gList_t, gList_c, gzip_l, genum_l, gInt_i, gInt_b, gAbs_i, List.getElem?_cons_zero, List.getElem?_cons_succ, List.set_cons_zero, List.set_cons_succ, List.map_cons, List.map_nil, List.length_cons, List.length_nil, iL_len, Nat.reduceAdd, Nat.reduceSub, List.replicate_succ, List.replicate_zero, List.cons_append, List.nil_append, Nat.zero_add, Option.bind_some, Option.map_some, if_true, if_false, Bool.false_eq_true, Bool.not_true, Bool.not_false, eq_self, reduceCtorEq, Nat.sub_self, List.append_nil, Nat.zero_le]) <;> rfl)).trans ?_
  refine (seq_nx (for_step (dRng_1 (n := 32) rfl (by decide)) (by rw [rngD_0]; exact e2))).trans ?_
  rfl
/-! ### the law's own helpers -/
def cell (ns : List Int) (k : Nat) : Int := (ns[k]?).getD 0
theorem law_cell_ok (ns : List Int) (k : Nat) : f__law_cell [.ro (iL ns), .int k] = .ok (.int (cell ns k)) := by
  unfold f__law_cell g__law_cell
  by_cases h : k < ns.length
  · have e : (iL ns)[k]? = some (.int (cell ns k)) := by
      rw [iL_get, List.getElem?_eq_getElem h]
      unfold cell
      rw [List.getElem?_eq_getElem h]
      rfl
    simp -implicitDefEqProofs only [fnV, fnN, finV, finN, startE, gSeq, gLet, gSet, gSetN, gRet, gRetN, gRetO, gRet0, gDrop, gIf, gNext, gOwn, gFreeze, gFor, gUnp, gPar, gSetIx, gBreak, gCont, dVar, dPeek, dC, dNew, dBin, dBinN, dUn, dBl, dIf, dAnd, dOr, dNot, dAndV, dOrV, dOfB, dNil, dCons, dCall, dCB, dCBN, dTru, dTup, dLst, dPair, dSl, oNone, oSome, ofO, dChain, chK, dIList, dITup, dRng, dLc, wipeE, R.bind_ok, R.bind_er, R.bind_no, fName, fTup, fCons, fNil, fLst, oTru, gAdd_i, gSub_i, gLt_i, gLe_i, gGt_i, gGe_i, gEq_i, gNe_i, gAnd_i, gOr_i, gXor_i, gLen_l, gLen_r, gLen_t, gLen_c, gIsi_e, tyD, kb_int_int, kb_int_bool, kb_int_list, kb_int_tuple, kb_bool_int, kb_bool_bool, kb_bool_list, kb_list_list, kb_list_int, kb_list_bool, kb_list_tuple, kb_tuple_tuple, kb_tuple_list, kb_tuple_int, kb_str_str, kb_str_int, kb_str_list, kb_non_list, kb_non_int, gList_l, gList_r, gList_t, gList_c, gzip_l, genum_l, gInt_i, gInt_b, gAbs_i, List.getElem?_cons_zero, List.getElem?_cons_succ, List.set_cons_zero, List.set_cons_succ, List.map_cons, List.map_nil, List.length_cons, List.length_nil, iL_len, Nat.reduceAdd, Nat.reduceSub, List.replicate_succ, List.replicate_zero, List.cons_append, List.nil_append, Nat.zero_add, Option.bind_some, Option.map_some, if_true, if_false, Bool.false_eq_true, Bool.not_true, Bool.not_false, eq_self, reduceCtorEq, Nat.sub_self, List.append_nil, gIx_r (xs := iL ns) (i := (k : Int)) (by omega) (by rw [iL_len]; omega), Int.toNat_natCast, e, (by omega : (k : Int) < ns.length), decide_true]
  · have e : cell ns k = 0 := by
      unfold cell
      rw [List.getElem?_eq_none_iff.mpr (by omega)]
      rfl
    have h2 : decide ((k : Int) < (ns.length : Int)) = false := decide_eq_false (by omega)
    simp -implicitDefEqProofs only [fnV, fnN, finV, finN, startE, gSeq, gLet, gSet, gSetN, gRet, gRetN, gRetO, gRet0, gDrop, gIf, gNext, gOwn, gFreeze, gFor, gUnp, gPar, gSetIx, gBreak, gCont, dVar, dPeek, dC, dNew, dBin, dBinN, dUn, dBl, dIf, dAnd, dOr, dNot, dAndV, dOrV, dOfB, dNil, dCons, dCall, dCB, dCBN, dTru, dTup, dLst, dPair, dSl, oNone, oSome, ofO, dChain, chK, dIList, dITup, dRng, dLc, wipeE, R.bind_ok, R.bind_er, R.bind_no, fName, fTup, fCons, fNil, fLst, oTru, gAdd_i, gSub_i, gLt_i, gLe_i, gGt_i, gGe_i, gEq_i, gNe_i, gAnd_i, gOr_i, gXor_i, gLen_l, gLen_r, gLen_t, gLen_c, gIsi_e, tyD, kb_int_int, kb_int_bool, kb_int_list, kb_int_tuple, kb_bool_int, kb_bool_bool, kb_bool_list, kb_list_list, kb_list_int, kb_list_bool, kb_list_tuple, kb_tuple_tuple, kb_tuple_list, kb_tuple_int, kb_str_str, kb_str_int, kb_str_list, kb_non_list, kb_non_int, gList_l, gList_r, gList_t, gList_c, gzip_l, genum_l, gInt_i, gInt_b, gAbs_i, List.getElem?_cons_zero, List.getElem?_cons_succ, List.set_cons_zero, List.set_cons_succ, List.map_cons, List.map_nil, List.length_cons, List.length_nil, iL_len, Nat.reduceAdd, Nat.reduceSub, List.replicate_succ, List.replicate_zero, List.cons_append, List.nil_append, Nat.zero_add, Option.bind_some, Option.map_some, if_true, if_false, Bool.false_eq_true, Bool.not_true, Bool.not_false, eq_self, reduceCtorEq, Nat.sub_self, List.append_nil, h2, e]
def mixA (c k : Int) : Int := (c * 48271 + k * 69621 + 7) % 2147483647
def mixB (x k : Int) : Int := (x * x + k * 40692 + 3) % 2147483629
def mixC (x k : Int) : Int := (x * x + k * 30269 + 5) % 2147483587
def mixed (c k : Int) : Int := mixC (mixB (mixA c k) k) k / 64
theorem mixA_eq (c k : Int) : (c * 48271 + k * 69621 + 7) % 2147483647 = mixA c k := by unfold mixA; rfl
theorem mixB_eq (c k : Int) : (c * c + k * 40692 + 3) % 2147483629 = mixB c k := by unfold mixB; rfl
theorem mixC_eq (c k : Int) : (c * c + k * 30269 + 5) % 2147483587 = mixC c k := by unfold mixC; rfl
theorem mixA_b (c k : Int) : -(2 ^ 64) < mixA c k ∧ mixA c k < 2 ^ 64 := by
  unfold mixA
  have h1 := Int.emod_nonneg (c * 48271 + k * 69621 + 7) (show (2147483647 : Int) ≠ 0 by decide)
  have h2 := Int.emod_lt_of_pos (c * 48271 + k * 69621 + 7) (show (0 : Int) < 2147483647 by decide)
  omega
theorem mixB_b (c k : Int) : -(2 ^ 64) < mixB c k ∧ mixB c k < 2 ^ 64 := by
  unfold mixB
  have h1 := Int.emod_nonneg (c * c + k * 40692 + 3) (show (2147483629 : Int) ≠ 0 by decide)
  have h2 := Int.emod_lt_of_pos (c * c + k * 40692 + 3) (show (0 : Int) < 2147483629 by decide)
  omega
theorem law_mixed_ok (c k : Int) : f__law_mixed [.int c, .int k] = .ok (.int (mixed c k)) := by
  refine fnV_rt ?_
  unfold g__law_mixed
  refine (seq_nx (by (simp -implicitDefEqProofs only [fnV, fnN, finV, finN, startE, gSeq, gLet, gSet, gSetN, gRet, gRetN, gRetO, gRet0, gDrop, gIf, gNext, gOwn, gFreeze, gFor, gUnp, gPar, gSetIx, gBreak, gCont, dVar, dPeek, dC, dNew, dBin, dBinN, dUn, dBl, dIf, dAnd, dOr, dNot, dAndV, dOrV, dOfB, dNil, dCons, dCall, dCB, dCBN, dTru, dTup, dLst, dPair, dSl, oNone, oSome, ofO, dChain, chK, dIList, dITup, dRng, dLc, wipeE, R.bind_ok, R.bind_er, R.bind_no, fName, fTup, fCons, fNil, fLst, oTru, gAdd_i, gSub_i, gLt_i, gLe_i, gGt_i, gGe_i, gEq_i, gNe_i, gAnd_i, gOr_i, gXor_i, gLen_l, gLen_r, gLen_t, gLen_c, gIsi_e, tyD, kb_int_int, kb_int_bool, kb_int_list, kb_int_tuple, kb_bool_int, kb_bool_bool, kb_bool_list, kb_list_list, kb_list_int, kb_list_bool, kb_list_tuple, kb_tuple_tuple, kb_tuple_list, kb_tuple_int, kb_str_str, kb_str_int, kb_str_list, kb_non_list, kb_non_int, gList_l, gList_r, gList_t, gList_c, gzip_l, genum_l, gInt_i, gInt_b, gAbs_i, List.getElem?_cons_zero, List.getElem?_cons_succ, List.set_cons_zero, List.set_cons_succ, List.map_cons, List.map_nil, List.length_cons, List.length_nil, iL_len, Nat.reduceAdd, Nat.reduceSub, List.replicate_succ, List.replicate_zero, List.cons_append, List.nil_append, Nat.zero_add, Option.bind_some, Option.map_some, if_true, if_false, Bool.false_eq_true, Bool.not_true, Bool.not_false, eq_self, reduceCtorEq, Nat.sub_self, List.append_nil, gMul_r (i := c) (j := 48271) (by decide), gMul_r (i := k) (j := 69621) (by decide), gMod_i (j := 2147483647) (by decide), mixA_eq]) <;> rfl)).trans ?_
  refine (seq_nx (by (simp -implicitDefEqProofs only [fnV, fnN, finV, finN, startE, gSeq, gLet, gSet, gSetN, gRet, gRetN, gRetO, gRet0, gDrop, gIf, gNext, gOwn, gFreeze, gFor, gUnp, gPar, gSetIx, gBreak, gCont, dVar, dPeek, dC, dNew, dBin, dBinN, dUn, dBl, dIf, dAnd, dOr, dNot, dAndV, dOrV, dOfB, dNil, dCons, dCall, dCB, dCBN, dTru, dTup, dLst, dPair, dSl, oNone, oSome, ofO, dChain, chK, dIList, dITup, dRng, dLc, wipeE, R.bind_ok, R.bind_er, R.bind_no, fName, fTup, fCons, fNil, fLst, oTru, gAdd_i, gSub_i, gLt_i, gLe_i, gGt_i, gGe_i, gEq_i, gNe_i, gAnd_i, gOr_i, gXor_i, gLen_l, gLen_r, gLen_t, gLen_c, gIsi_e, tyD, kb_int_int, kb_int_bool, kb_int_list, kb_int_tuple, kb_bool_int, kb_bool_bool, kb_bool_list, kb_list_list, kb_list_int, kb_list_bool, kb_list_tuple, kb_tuple_tuple, kb_tuple_list, kb_tuple_int, kb_str_str, kb_str_int, kb_str_list, kb_non_list, kb_non_int, gList_l, gList_r, gList_t, gList_c, gzip_l, genum_l, gInt_i, gInt_b, gAbs_i, List.getElem?_cons_zero, List.getElem?_cons_succ, List.set_cons_zero, List.set_cons_succ, List.map_cons, List.map_nil, List.length_cons, List.length_nil, iL_len, Nat.reduceAdd, Nat.reduceSub, List.replicate_succ, List.replicate_zero, List.cons_append, List.nil_append, Nat.zero_add, Option.bind_some, Option.map_some, if_true, if_false, Bool.false_eq_true, Bool.not_true, Bool.not_false, eq_self, reduceCtorEq, Nat.sub_self, List.append_nil, gMul_l (mixA_b c k), gMul_r (i := k) (j := 40692) (by decide), gMod_i (j := 2147483629) (by decide), mixB_eq]) <;> rfl)).trans ?_
  refine (seq_nx (by (simp -implicitDefEqProofs only [fnV, fnN, finV, finN, startE, gSeq, gLet, gSet, gSetN, gRet, gRetN, gRetO, gRet0, gDrop, gIf, gNext, gOwn, gFreeze, gFor, gUnp, gPar, gSetIx, gBreak, gCont, dVar, dPeek, dC, dNew, dBin, dBinN, dUn, dBl, dIf, dAnd, dOr, dNot, dAndV, dOrV, dOfB, dNil, dCons, dCall, dCB, dCBN, dTru, dTup, dLst, dPair, dSl, oNone, oSome, ofO, dChain, chK, dIList, dITup, dRng, dLc, wipeE, R.bind_ok, R.bind_er, R.bind_no, fName, fTup, fCons, fNil, fLst, oTru, gAdd_i, gSub_i, gLt_i, gLe_i, gGt_i, gGe_i, gEq_i, gNe_i, gAnd_i, gOr_i, gXor_i, gLen_l, gLen_r, gLen_t, gLen_c, gIsi_e, tyD, kb_int_int, kb_int_bool, kb_int_list, kb_int_tuple, kb_bool_int, kb_bool_bool, kb_bool_list, kb_list_list, kb_list_int, kb_list_bool, kb_list_tuple, kb_tuple_tuple, kb_tuple_list, kb_tuple_int, kb_str_str, kb_str_int, kb_str_list, kb_non_list, kb_non_int, gList_l, gList_r, gList_t, gList_c, gzip_l, genum_l, gInt_i, gInt_b, gAbs_i, List.getElem?_cons_zero, List.getElem?_cons_succ, List.set_cons_zero, List.set_cons_succ, List.map_cons, List.map_nil, List.length_cons, List.length_nil, iL_len, Nat.reduceAdd, Nat.reduceSub, List.replicate_succ, List.replicate_zero, List.cons_append, List.nil_append, Nat.zero_add, Option.bind_some, Option.map_some, if_true, if_false, Bool.false_eq_true, Bool.not_true, Bool.not_false, eq_self, reduceCtorEq, Nat.sub_self, List.append_nil, gMul_l (mixB_b (mixA c k) k), gMul_r (i := k) (j := 30269) (by decide), gMod_i (j := 2147483587) (by decide), mixC_eq]) <;> rfl)).trans ?_
  simp -implicitDefEqProofs only [fnV, fnN, finV, finN, startE, gSeq, gLet, gSet, gSetN, gRet, gRetN, gRetO, gRet0, gDrop, gIf, gNext, gOwn, gFreeze, gFor, gUnp, gPar, gSetIx, gBreak, gCont, dVar, dPeek, dC, dNew, dBin, dBinN, dUn, dBl, dIf, dAnd, dOr, dNot, dAndV, dOrV, dOfB, dNil, dCons, dCall, dCB, dCBN, dTru, dTup, dLst, dPair, dSl, oNone, oSome, ofO, dChain, chK, dIList, dITup, dRng, dLc, wipeE, R.bind_ok, R.bind_er, R.bind_no, fName, fTup, fCons, fNil, fLst, oTru, gAdd_i, gSub_i, gLt_i, gLe_i, gGt_i, gGe_i, gEq_i, gNe_i, gAnd_i, gOr_i, gXor_i, gLen_l, gLen_r, gLen_t, gLen_c, gIsi_e, tyD, kb_int_int, kb_int_bool, kb_int_list, kb_int_tuple, kb_bool_int, kb_bool_bool, kb_bool_list, kb_list_list, kb_list_int, kb_list_bool, kb_list_tuple, kb_tuple_tuple, kb_tuple_list, kb_tuple_int, kb_str_str, kb_str_int, kb_str_list, kb_non_list, kb_non_int, gList_l, gList_r, gList_t, gList_c, gzip_l, genum_l, gInt_i, gInt_b, gAbs_i, List.getElem?_cons_zero, List.getElem?_cons_succ, List.set_cons_zero, List.set_cons_succ, List.map_cons, List.map_nil, List.length_cons, List.length_nil, iL_len, Nat.reduceAdd, Nat.reduceSub, List.replicate_succ, List.replicate_zero, List.cons_append, List.nil_append, Nat.zero_add, Option.bind_some, Option.map_some, if_true, if_false, Bool.false_eq_true, Bool.not_true, Bool.not_false, eq_self, reduceCtorEq, Nat.sub_self, List.append_nil, gFDiv_s (j := 64) (by decide)]
  rfl
/-- a turn of _law_bytes -/
def bt (great : Bool) (c : Int) (p : Int × List Int) (k : Nat) : Int × List Int := if great = true ∧ 0 < p.1 then (p.1 / 256, p.2 ++ [p.1 % 256]) else (p.1, p.2 ++ [mixed c k % 256])
def absI (c : Int) : Int := if c < 0 then -c else c
def greatB (x : Int) : Bool := decide (10 ^ 18 ≤ x)
def bytesOf (c : Int) (n : Nat) : List Int := ((List.range n).foldl (bt (greatB (absI c)) c) (absI c, [])).2
theorem law_bytes_turn (great : Bool) (c : Int) (n x : Nat) (l : Int) (xs : List Int) (hn : xs.length ≤ 1000000) : g__law_bytes_b1 [.v (.int c), .v (.int n), .v (.int l), .v (.bl great), .o (iL xs), .v (.int x)] =
    .nx [.v (.int c), .v (.int n), .v (.int (bt great c (l, xs) x).1), .v (.bl great), .o (iL (bt great c (l, xs) x).2), .v (.int x)] := by
  have hu := fun d => uApp_l (d := d) (show (iL xs).length < sizeLine from line_of (by rw [iL_len]; omega))
  unfold g__law_bytes_b1
  cases great with
  | false =>
    have e : bt false c (l, xs) x = (l, xs ++ [mixed c x % 256]) := by unfold bt; rw [if_neg (by simp)]
    rw [e]
    simp -implicitDefEqProofs only [fnV, fnN, finV, finN, startE, gSeq, gLet, gSet, gSetN, gRet, gRetN, gRetO, gRet0, gDrop, gIf, gNext, gOwn, gFreeze, gFor, gUnp, gPar, gSetIx, gBreak, gCont, dVar, dPeek, dC, dNew, dBin, dBinN, dUn, dBl, dIf, dAnd, dOr, dNot, dAndV, dOrV, dOfB, dNil, dCons, dCall, dCB, dCBN, dTru, dTup, dLst, dPair, dSl, oNone, oSome, ofO, dChain, chK, dIList, dITup, dRng, dLc, wipeE, R.bind_ok, R.bind_er, R.bind_no, fName, fTup, fCons, fNil, fLst, oTru, gAdd_i, gSub_i, gLt_i, gLe_i, gGt_i, gGe_i, gEq_i, gNe_i, gAnd_i, gOr_i, gXor_i, gLen_l, gLen_r, gLen_t, gLen_c, gIsi_e, tyD, kb_int_int, kb_int_bool, kb_int_list, kb_int_tuple, kb_bool_int, kb_bool_bool, kb_bool_list, kb_list_list, kb_list_int, kb_list_bool, kb_list_tuple, kb_tuple_tuple, kb_tuple_list, kb_tuple_int, kb_str_str, kb_str_int, kb_str_list, kb_non_list, kb_non_int, gList_l, gList_r, gList_t, gList_c, gzip_l, genum_l, gInt_i, gInt_b, gAbs_i, List.getElem?_cons_zero, List.getElem?_cons_succ, List.set_cons_zero, List.set_cons_succ, List.map_cons, List.map_nil, List.length_cons, List.length_nil, iL_len, Nat.reduceAdd, Nat.reduceSub, List.replicate_succ, List.replicate_zero, List.cons_append, List.nil_append, Nat.zero_add, Option.bind_some, Option.map_some, if_true, if_false, Bool.false_eq_true, Bool.not_true, Bool.not_false, eq_self, reduceCtorEq, Nat.sub_self, List.append_nil, gMod_i (j := 256) (by decide), law_mixed_ok, hu, iL_app]
  | true =>
    by_cases h2 : 0 < l
    · have e : bt true c (l, xs) x = (l / 256, xs ++ [l % 256]) := by unfold bt; rw [if_pos (by simp [h2])]
      rw [e]
      simp -implicitDefEqProofs only [fnV, fnN, finV, finN, startE, gSeq, gLet, gSet, gSetN, gRet, gRetN, gRetO, gRet0, gDrop, gIf, gNext, gOwn, gFreeze, gFor, gUnp, gPar, gSetIx, gBreak, gCont, dVar, dPeek, dC, dNew, dBin, dBinN, dUn, dBl, dIf, dAnd, dOr, dNot, dAndV, dOrV, dOfB, dNil, dCons, dCall, dCB, dCBN, dTru, dTup, dLst, dPair, dSl, oNone, oSome, ofO, dChain, chK, dIList, dITup, dRng, dLc, wipeE, R.bind_ok, R.bind_er, R.bind_no, fName, fTup, fCons, fNil, fLst, oTru, gAdd_i, gSub_i, gLt_i, gLe_i, gGt_i, gGe_i, gEq_i, gNe_i, gAnd_i, gOr_i, gXor_i, gLen_l, gLen_r, gLen_t, gLen_c, gIsi_e, tyD, kb_int_int, kb_int_bool, kb_int_list, kb_int_tuple, kb_bool_int, kb_bool_bool, kb_bool_list, kb_list_list, kb_list_int, kb_list_bool, kb_list_tuple, kb_tuple_tuple, kb_tuple_list, kb_tuple_int, kb_str_str, kb_str_int, kb_str_list, kb_non_list, kb_non_int, gList_l, gList_r, gList_t, gList_c, gzip_l, genum_l, gInt_i, gInt_b, gAbs_i, List.getElem?_cons_zero, List.getElem?_cons_succ, List.set_cons_zero, List.set_cons_succ, List.map_cons, List.map_nil, List.length_cons, List.length_nil, iL_len, Nat.reduceAdd, Nat.reduceSub, List.replicate_succ, List.replicate_zero, List.cons_append, List.nil_append, Nat.zero_add, Option.bind_some, Option.map_some, if_true, if_false, Bool.false_eq_true, Bool.not_true, Bool.not_false, eq_self, reduceCtorEq, Nat.sub_self, List.append_nil, h2, decide_true, gMod_i (j := 256) (by decide), gFDiv_s (j := 256) (by decide), hu, iL_app]
    · have e : bt true c (l, xs) x = (l, xs ++ [mixed c x % 256]) := by unfold bt; rw [if_neg (by simp [h2])]
      rw [e]
      simp -implicitDefEqProofs only [fnV, fnN, finV, finN, startE, gSeq, gLet, gSet, gSetN, gRet, gRetN, gRetO, gRet0, gDrop, gIf, gNext, gOwn, gFreeze, gFor, gUnp, gPar, gSetIx, gBreak, gCont, dVar, dPeek, dC, dNew, dBin, dBinN, dUn, dBl, dIf, dAnd, dOr, dNot, dAndV, dOrV, dOfB, dNil, dCons, dCall, dCB, dCBN, dTru, dTup, dLst, dPair, dSl, oNone, oSome, ofO, dChain, chK, dIList, dITup, dRng, dLc, wipeE, R.bind_ok, R.bind_er, R.bind_no, fName, fTup, fCons, fNil, fLst, oTru, gAdd_i, gSub_i, gLt_i, gLe_i, gGt_i, gGe_i, gEq_i, gNe_i, gAnd_i, gOr_i, gXor_i, gLen_l, gLen_r, gLen_t, gLen_c, gIsi_e, tyD, kb_int_int, kb_int_bool, kb_int_list, kb_int_tuple, kb_bool_int, kb_bool_bool, kb_bool_list, kb_list_list, kb_list_int, kb_list_bool, kb_list_tuple, kb_tuple_tuple, kb_tuple_list, kb_tuple_int, kb_str_str, kb_str_int, kb_str_list, kb_non_list, kb_non_int, gList_l, gList_r, gList_t, gList_c, gzip_l, genum_l, gInt_i, gInt_b, gAbs_i, List.getElem?_cons_zero, List.getElem?_cons_succ, List.set_cons_zero, List.set_cons_succ, List.map_cons, List.map_nil, List.length_cons, List.length_nil, iL_len, Nat.reduceAdd, Nat.reduceSub, List.replicate_succ, List.replicate_zero, List.cons_append, List.nil_append, Nat.zero_add, Option.bind_some, Option.map_some, if_true, if_false, Bool.false_eq_true, Bool.not_true, Bool.not_false, eq_self, reduceCtorEq, Nat.sub_self, List.append_nil, h2, decide_false, gMod_i (j := 256) (by decide), law_mixed_ok, hu, iL_app]
theorem law_bytes_ok (c : Int) (n : Nat) (hn : n ≤ 1000000) : f__law_bytes [.int c, .int n] = .ok (iL (bytesOf c n)) := by
  refine fnN_rn ?_
  unfold g__law_bytes
  refine (seq_nx (by (simp -implicitDefEqProofs only [fnV, fnN, finV, finN, startE, gSeq, gLet, gSet, gSetN, gRet, gRetN, gRetO, gRet0, gDrop, gIf, gNext, gOwn, gFreeze, gFor, gUnp, gPar, gSetIx, gBreak, gCont, dVar, dPeek, dC, dNew, dBin, dBinN, dUn, dBl, dIf, dAnd, dOr, dNot, dAndV, dOrV, dOfB, dNil, dCons, dCall, dCB, dCBN, dTru, dTup, dLst, dPair, dSl, oNone, oSome, ofO, dChain, chK, dIList, dITup, dRng, dLc, wipeE, R.bind_ok, R.bind_er, R.bind_no, fName, fTup, fCons, fNil, fLst, oTru, gAdd_i, gSub_i, gLt_i, gLe_i, gGt_i, gGe_i, gEq_i, gNe_i, gAnd_i, gOr_i, gXor_i, gLen_l, gLen_r, gLen_t, gLen_c, gIsi_e, tyD, kb_int_int, kb_int_bool, kb_int_list, kb_int_tuple, kb_bool_int, kb_bool_bool, kb_bool_list, kb_list_list, kb_list_int, kb_list_bool, kb_list_tuple, kb_tuple_tuple, kb_tuple_list, kb_tuple_int, kb_str_str, kb_str_int, kb_str_list, kb_non_list, kb_non_int, gList_l, gList_r, gList_t, gList_c, gzip_l, genum_l, gInt_i, gInt_b, gAbs_i, List.getElem?_cons_zero, List.getElem?_cons_succ, List.set_cons_zero, List.set_cons_succ, List.map_cons, List.map_nil, List.length_cons, List.length_nil, iL_len, Nat.reduceAdd, Nat.reduceSub, List.replicate_succ, List.replicate_zero, List.cons_append, List.nil_append, Nat.zero_add, Option.bind_some, Option.map_some, if_true, if_false, Bool.false_eq_true, Bool.not_true, Bool.not_false, eq_self, reduceCtorEq, Nat.sub_self, List.append_nil]) <;> rfl)).trans ?_
  refine (seq_nx (by (simp -implicitDefEqProofs only [fnV, fnN, finV, finN, startE, gSeq, gLet, gSet, gSetN, gRet, gRetN, gRetO, gRet0, gDrop, gIf, gNext, gOwn, gFreeze, gFor, gUnp, gPar, gSetIx, gBreak, gCont, dVar, dPeek, dC, dNew, dBin, dBinN, dUn, dBl, dIf, dAnd, dOr, dNot, dAndV, dOrV, dOfB, dNil, dCons, dCall, dCB, dCBN, dTru, dTup, dLst, dPair, dSl, oNone, oSome, ofO, dChain, chK, dIList, dITup, dRng, dLc, wipeE, R.bind_ok, R.bind_er, R.bind_no, fName, fTup, fCons, fNil, fLst, oTru, gAdd_i, gSub_i, gLt_i, gLe_i, gGt_i, gGe_i, gEq_i, gNe_i, gAnd_i, gOr_i, gXor_i, gLen_l, gLen_r, gLen_t, gLen_c, gIsi_e, tyD, kb_int_int, kb_int_bool, kb_int_list, kb_int_tuple, kb_bool_int, kb_bool_bool, kb_bool_list, kb_list_list, kb_list_int, kb_list_bool, kb_list_tuple, kb_tuple_tuple, kb_tuple_list, kb_tuple_int, kb_str_str, kb_str_int, kb_str_list, kb_non_list, kb_non_int, gList_l, gList_r, gList_t, gList_c, gzip_l, genum_l, gInt_i, gInt_b, gAbs_i, List.getElem?_cons_zero, List.getElem?_cons_succ, List.set_cons_zero, List.set_cons_succ, List.map_cons, List.map_nil, List.length_cons, List.length_nil, iL_len, Nat.reduceAdd, Nat.reduceSub, List.replicate_succ, List.replicate_zero, List.cons_append, List.nil_append, Nat.zero_add, Option.bind_some, Option.map_some, if_true, if_false, Bool.false_eq_true, Bool.not_true, Bool.not_false, eq_self, reduceCtorEq, Nat.sub_self, List.append_nil, gPow_i (i := 10) (j := 18) (by decide), (by decide : (18 : Int).toNat = 18)]) <;> rfl)).trans ?_
  refine (seq_nx (by (simp -implicitDefEqProofs only [fnV, fnN, finV, finN, startE, gSeq, gLet, gSet, gSetN, gRet, gRetN, gRetO, gRet0, gDrop, gIf, gNext, gOwn, gFreeze, gFor, gUnp, gPar, gSetIx, gBreak, gCont, dVar, dPeek, dC, dNew, dBin, dBinN, dUn, dBl, dIf, dAnd, dOr, dNot, dAndV, dOrV, dOfB, dNil, dCons, dCall, dCB, dCBN, dTru, dTup, dLst, dPair, dSl, oNone, oSome, ofO, dChain, chK, dIList, dITup, dRng, dLc, wipeE, R.bind_ok, R.bind_er, R.bind_no, fName, fTup, fCons, fNil, fLst, oTru, gAdd_i, gSub_i, gLt_i, gLe_i, gGt_i, gGe_i, gEq_i, gNe_i, gAnd_i, gOr_i, gXor_i, gLen_l, gLen_r, gLen_t, gLen_c, gIsi_e, tyD, kb_int_int, kb_int_bool, kb_int_list, kb_int_tuple, kb_bool_int, kb_bool_bool, kb_bool_list, kb_list_list, kb_list_int, kb_list_bool, kb_list_tuple, kb_tuple_tuple, kb_tuple_list, kb_tuple_int, kb_str_str, kb_str_int, kb_str_list, kb_non_list, kb_non_int, gList_l, gList_r, gList_t, gList_c, gzip_l, genum_l, gInt_i, gInt_b, gAbs_i, List.getElem?_cons_zero, List.getElem?_cons_succ, List.set_cons_zero, List.set_cons_succ, List.map_cons, List.map_nil, List.length_cons, List.length_nil, iL_len, Nat.reduceAdd, Nat.reduceSub, List.replicate_succ, List.replicate_zero, List.cons_append, List.nil_append, Nat.zero_add, Option.bind_some, Option.map_some, if_true, if_false, Bool.false_eq_true, Bool.not_true, Bool.not_false, eq_self, reduceCtorEq, Nat.sub_self, List.append_nil, Nat.zero_le]) <;> rfl)).trans ?_
  obtain ⟨j2, e2, _⟩ := for_map (gf := fName 5) (gb := g__law_bytes_b1) (fun (i : Nat) => D.int (i : Int)) (fun (p : Int × List Int) (j' : Sl) => [.v (.int c), .v (.int n), .v (.int p.1), .v (.bl (greatB (absI c))), .o (iL p.2), j']) (bt (greatB (absI c)) c) (fun pre p => p.2.length = pre.length) (List.range n) (absI c, []) .un rfl
    (fun pre x post a j' hx hi => by
      have hl : pre.length < n := by
        have := congrArg List.length hx
        simp at this
        omega
      refine ⟨_, .v (.int x), rfl, .inl (law_bytes_turn _ c n x a.1 a.2 (by omega)), ?_⟩
      unfold bt
      split <;> simp [hi])
  refine (seq_nx (for_step (dRng_1 (n := (n : Int)) rfl (by omega)) (by rw [rngD_0, Int.toNat_natCast]; exact e2))).trans ?_
  rfl
theorem bytesOf_len (c : Int) (n : Nat) : (bytesOf c n).length = n := by
  have key : ∀ (g : Bool) (l : List Nat) (p : Int × List Int), (l.foldl (bt g c) p).2.length = p.2.length + l.length := by
    intro g l
    induction l with
    | nil => intro p; rfl
    | cons x l ih =>
      intro p
      rw [List.foldl_cons, ih, List.length_cons]
      have : (bt g c p x).2.length = p.2.length + 1 := by
        unfold bt
        split <;> simp
      omega
  unfold bytesOf
  rw [key]
  simp
theorem law_integer_ok (i : Int) : f__law_integer [.int i] = .ok (.bl true) := by
  unfold f__law_integer g__law_integer
  simp -implicitDefEqProofs only [fnV, fnN, finV, finN, startE, gSeq, gLet, gSet, gSetN, gRet, gRetN, gRetO, gRet0, gDrop, gIf, gNext, gOwn, gFreeze, gFor, gUnp, gPar, gSetIx, gBreak, gCont, dVar, dPeek, dC, dNew, dBin, dBinN, dUn, dBl, dIf, dAnd, dOr, dNot, dAndV, dOrV, dOfB, dNil, dCons, dCall, dCB, dCBN, dTru, dTup, dLst, dPair, dSl, oNone, oSome, ofO, dChain, chK, dIList, dITup, dRng, dLc, wipeE, R.bind_ok, R.bind_er, R.bind_no, fName, fTup, fCons, fNil, fLst, oTru, gAdd_i, gSub_i, gLt_i, gLe_i, gGt_i, gGe_i, gEq_i, gNe_i, gAnd_i, gOr_i, gXor_i, gLen_l, gLen_r, gLen_t, gLen_c, gIsi_e, tyD, kb_int_int, kb_int_bool, kb_int_list, kb_int_tuple, kb_bool_int, kb_bool_bool, kb_bool_list, kb_list_list, kb_list_int, kb_list_bool, kb_list_tuple, kb_tuple_tuple, kb_tuple_list, kb_tuple_int, kb_str_str, kb_str_int, kb_str_list, kb_non_list, kb_non_int, gList_l, gList_r, gList_t, gList_c, gzip_l, genum_l, gInt_i, gInt_b, gAbs_i, List.getElem?_cons_zero, List.getElem?_cons_succ, List.set_cons_zero, List.set_cons_succ, List.map_cons, List.map_nil, List.length_cons, List.length_nil, iL_len, Nat.reduceAdd, Nat.reduceSub, List.replicate_succ, List.replicate_zero, List.cons_append, List.nil_append, Nat.zero_add, Option.bind_some, Option.map_some, if_true, if_false, Bool.false_eq_true, Bool.not_true, Bool.not_false, eq_self, reduceCtorEq, Nat.sub_self, List.append_nil]
theorem law_is_list_ok (xs : List Int) : f__law_is_list [.lst (iL xs), .lst (iL xs)] = .ok (.bl true) := by
  unfold f__law_is_list g__law_is_list
  have hz : ((iL xs).zip (iL xs)).map (fun p => D.tup [p.1, p.2]) = xs.map fun x => D.tup [.int x, .int x] := by
    induction xs with
    | nil => rfl
    | cons x xs ih => simp only [iL, List.map_cons, List.zip_cons_cons] at ih ⊢; rw [ih]
  obtain ⟨j, e1⟩ := for_fold (gf := fTup 2 (fCons (fName 2) (fCons (fName 3) fNil))) (gb := g__law_is_list_b1) (fun x : Int => D.tup [.int x, .int x]) (fun (_ : Unit) (j : Sl × Sl) => [.v (.lst (iL xs)), .v (.lst (iL xs)), j.1, j.2]) (fun _ _ => ()) xs () (.un, .un)
    (fun x a j hx => by
      refine ⟨_, (.v (.int x), .v (.int x)), rfl, .inl ?_⟩
      unfold g__law_is_list_b1
      simp -implicitDefEqProofs only [fnV, fnN, finV, finN, startE, gSeq, gLet, gSet, gSetN, gRet, gRetN, gRetO, gRet0, gDrop, gIf, gNext, gOwn, gFreeze, gFor, gUnp, gPar, gSetIx, gBreak, gCont, dVar, dPeek, dC, dNew, dBin, dBinN, dUn, dBl, dIf, dAnd, dOr, dNot, dAndV, dOrV, dOfB, dNil, dCons, dCall, dCB, dCBN, dTru, dTup, dLst, dPair, dSl, oNone, oSome, ofO, dChain, chK, dIList, dITup, dRng, dLc, wipeE, R.bind_ok, R.bind_er, R.bind_no, fName, fTup, fCons, fNil, fLst, oTru, gAdd_i, gSub_i, gLt_i, gLe_i, gGt_i, gGe_i, gEq_i, gNe_i, gAnd_i, gOr_i, gXor_i, gLen_l, gLen_r, gLen_t, gLen_c, gIsi_e, tyD, kb_int_int, kb_int_bool, kb_int_list, kb_int_tuple, kb_bool_int, kb_bool_bool, kb_bool_list, kb_list_list, kb_list_int, kb_list_bool, kb_list_tuple, kb_tuple_tuple, kb_tuple_list, kb_tuple_int, kb_str_str, kb_str_int, kb_str_list, kb_non_list, kb_non_int, gList_l, gList_r, gList_t, gList_c, gzip_l, genum_l, gInt_i, gInt_b, gAbs_i, List.getElem?_cons_zero, List.getElem?_cons_succ, List.set_cons_zero, List.set_cons_succ, List.map_cons, List.map_nil, List.length_cons, List.length_nil, iL_len, Nat.reduceAdd, Nat.reduceSub, List.replicate_succ, List.replicate_zero, List.cons_append, List.nil_append, Nat.zero_add, Option.bind_some, Option.map_some, if_true, if_false, Bool.false_eq_true, Bool.not_true, Bool.not_false, eq_self, reduceCtorEq, Nat.sub_self, List.append_nil, law_integer_ok, beq_self_eq_true])
  simp -implicitDefEqProofs only [fnV, fnN, finV, finN, startE, gSeq, gLet, gSet, gSetN, gRet, gRetN, gRetO, gRet0, gDrop, gIf, gNext, gOwn, gFreeze, gFor, gUnp, gPar, gSetIx, gBreak, gCont, dVar, dPeek, dC, dNew, dBin, dBinN, dUn, dBl, dIf, dAnd, dOr, dNot, dAndV, dOrV, dOfB, dNil, dCons, dCall, dCB, dCBN, dTru, dTup, dLst, dPair, dSl, oNone, oSome, ofO, dChain, chK, dIList, dITup, dRng, dLc, wipeE, R.bind_ok, R.bind_er, R.bind_no, fName, fTup, fCons, fNil, fLst, oTru, gAdd_i, gSub_i, gLt_i, gLe_i, gGt_i, gGe_i, gEq_i, gNe_i, gAnd_i, gOr_i, gXor_i, gLen_l, gLen_r, gLen_t, gLen_c, gIsi_e, tyD, kb_int_int, kb_int_bool, kb_int_list, kb_int_tuple, kb_bool_int, kb_bool_bool, kb_bool_list, kb_list_list, kb_list_int, kb_list_bool, kb_list_tuple, kb_tuple_tuple, kb_tuple_list, kb_tuple_int, kb_str_str, kb_str_int, kb_str_list, kb_non_list, kb_non_int, gList_l, gList_r, gList_t, gList_c, gzip_l, genum_l, gInt_i, gInt_b, gAbs_i, List.getElem?_cons_zero, List.getElem?_cons_succ, List.set_cons_zero, List.set_cons_succ, List.map_cons, List.map_nil, List.length_cons, List.length_nil, iL_len, Nat.reduceAdd, Nat.reduceSub, List.replicate_succ, List.replicate_zero, List.cons_append, List.nil_append, Nat.zero_add, Option.bind_some, Option.map_some, if_true, if_false, Bool.false_eq_true, Bool.not_true, Bool.not_false, eq_self, reduceCtorEq, Nat.sub_self, List.append_nil, beq_self_eq_true, hz, e1]
/-! ### the law -/
theorem seven (s b : Int) : sc1 (sc1 s 0) (b + 14) = sc1 (sc1 s 255) b := by
  unfold sc1
  omega
theorem smallCore_pair (l r : List Int) (b : Int) : smallCore (l ++ [0, b + 14] ++ r) = smallCore (l ++ [255, b] ++ r) := by
  unfold smallCore
  have e : (l ++ [0, b + 14] ++ r).foldl sc1 1 = (l ++ [255, b] ++ r).foldl sc1 1 := by
    simp only [List.foldl_append, List.foldl_cons, List.foldl_nil, seven]
  rw [e]
  simp only [List.length_append, List.length_cons, List.length_nil]
theorem toNat_mod (c : Int) {k : Int} (hk : 0 < k) : ∃ n : Nat, c % k = n ∧ (n : Int) < k := ⟨(c % k).toNat, by have := Int.emod_nonneg c (show k ≠ 0 by omega); omega, by have := Int.emod_nonneg c (show k ≠ 0 by omega); have := Int.emod_lt_of_pos c hk; omega⟩
theorem law_turn (A B C D' : Sl) (data row : List Int) (E F G H I J : Sl) :
    g_law_b1 [A, B, C, D', .v (.lst (iL row)), E, F, G, H, I, J] = .nx [A, B, C, D', .v (.lst (iL row)), E, F, G, H, .v (.lst (iL row)), .v (.lst (iL (smallCore row)))] := by
  unfold g_law_b1
  refine (seq_nx (by (simp -implicitDefEqProofs only [fnV, fnN, finV, finN, startE, gSeq, gLet, gSet, gSetN, gRet, gRetN, gRetO, gRet0, gDrop, gIf, gNext, gOwn, gFreeze, gFor, gUnp, gPar, gSetIx, gBreak, gCont, dVar, dPeek, dC, dNew, dBin, dBinN, dUn, dBl, dIf, dAnd, dOr, dNot, dAndV, dOrV, dOfB, dNil, dCons, dCall, dCB, dCBN, dTru, dTup, dLst, dPair, dSl, oNone, oSome, ofO, dChain, chK, dIList, dITup, dRng, dLc, wipeE, R.bind_ok, R.bind_er, R.bind_no, fName, fTup, fCons, fNil, fLst, oTru, gAdd_i, gSub_i, gLt_i, gLe_i, gGt_i, gGe_i, gEq_i, gNe_i, gAnd_i, gOr_i, gXor_i, gLen_l, gLen_r, gLen_t, gLen_c, gIsi_e, tyD, kb_int_int, kb_int_bool, kb_int_list, kb_int_tuple, kb_bool_int, kb_bool_bool, kb_bool_list, kb_list_list, kb_list_int, kb_list_bool, kb_list_tuple, kb_tuple_tuple, kb_tuple_list, kb_tuple_int, kb_str_str, kb_str_int, kb_str_list, kb_non_list, kb_non_int, gList_l, gList_r, gList_t, gList_c, gzip_l, genum_l, gInt_i, gInt_b, gAbs_i, List.getElem?_cons_zero, List.getElem?_cons_succ, List.set_cons_zero, List.set_cons_succ, List.map_cons, List.map_nil, List.length_cons, List.length_nil, iL_len, Nat.reduceAdd, Nat.reduceSub, List.replicate_succ, List.replicate_zero, List.cons_append, List.nil_append, Nat.zero_add, Option.bind_some, Option.map_some, if_true, if_false, Bool.false_eq_true, Bool.not_true, Bool.not_false, eq_self, reduceCtorEq, Nat.sub_self, List.append_nil]) <;> rfl)).trans ?_
  refine (seq_nx (by (simp -implicitDefEqProofs only [fnV, fnN, finV, finN, startE, gSeq, gLet, gSet, gSetN, gRet, gRetN, gRetO, gRet0, gDrop, gIf, gNext, gOwn, gFreeze, gFor, gUnp, gPar, gSetIx, gBreak, gCont, dVar, dPeek, dC, dNew, dBin, dBinN, dUn, dBl, dIf, dAnd, dOr, dNot, dAndV, dOrV, dOfB, dNil, dCons, dCall, dCB, dCBN, dTru, dTup, dLst, dPair, dSl, oNone, oSome, ofO, dChain, chK, dIList, dITup, dRng, dLc, wipeE, R.bind_ok, R.bind_er, R.bind_no, fName, fTup, fCons, fNil, fLst, oTru, gAdd_i, gSub_i, gLt_i, gLe_i, gGt_i, gGe_i, gEq_i, gNe_i, gAnd_i, gOr_i, gXor_i, gLen_l, gLen_r, gLen_t, gLen_c, gIsi_e, tyD, kb_int_int, kb_int_bool, kb_int_list, kb_int_tuple, kb_bool_int, kb_bool_bool, kb_bool_list, kb_list_list, kb_list_int, kb_list_bool, kb_list_tuple, kb_tuple_tuple, kb_tuple_list, kb_tuple_int, kb_str_str, kb_str_int, kb_str_list, kb_non_list, kb_non_int, gList_l, gList_r, gList_t, gList_c, gzip_l, genum_l, gInt_i, gInt_b, gAbs_i, List.getElem?_cons_zero, List.getElem?_cons_succ, List.set_cons_zero, List.set_cons_succ, List.map_cons, List.map_nil, List.length_cons, List.length_nil, iL_len, Nat.reduceAdd, Nat.reduceSub, List.replicate_succ, List.replicate_zero, List.cons_append, List.nil_append, Nat.zero_add, Option.bind_some, Option.map_some, if_true, if_false, Bool.false_eq_true, Bool.not_true, Bool.not_false, eq_self, reduceCtorEq, Nat.sub_self, List.append_nil, small_core_ok]) <;> rfl)).trans ?_
  simp -implicitDefEqProofs only [fnV, fnN, finV, finN, startE, gSeq, gLet, gSet, gSetN, gRet, gRetN, gRetO, gRet0, gDrop, gIf, gNext, gOwn, gFreeze, gFor, gUnp, gPar, gSetIx, gBreak, gCont, dVar, dPeek, dC, dNew, dBin, dBinN, dUn, dBl, dIf, dAnd, dOr, dNot, dAndV, dOrV, dOfB, dNil, dCons, dCall, dCB, dCBN, dTru, dTup, dLst, dPair, dSl, oNone, oSome, ofO, dChain, chK, dIList, dITup, dRng, dLc, wipeE, R.bind_ok, R.bind_er, R.bind_no, fName, fTup, fCons, fNil, fLst, oTru, gAdd_i, gSub_i, gLt_i, gLe_i, gGt_i, gGe_i, gEq_i, gNe_i, gAnd_i, gOr_i, gXor_i, gLen_l, gLen_r, gLen_t, gLen_c, gIsi_e, tyD, kb_int_int, kb_int_bool, kb_int_list, kb_int_tuple, kb_bool_int, kb_bool_bool, kb_bool_list, kb_list_list, kb_list_int, kb_list_bool, kb_list_tuple, kb_tuple_tuple, kb_tuple_list, kb_tuple_int, kb_str_str, kb_str_int, kb_str_list, kb_non_list, kb_non_int, gList_l, gList_r, gList_t, gList_c, gzip_l, genum_l, gInt_i, gInt_b, gAbs_i, List.getElem?_cons_zero, List.getElem?_cons_succ, List.set_cons_zero, List.set_cons_succ, List.map_cons, List.map_nil, List.length_cons, List.length_nil, iL_len, Nat.reduceAdd, Nat.reduceSub, List.replicate_succ, List.replicate_zero, List.cons_append, List.nil_append, Nat.zero_add, Option.bind_some, Option.map_some, if_true, if_false, Bool.false_eq_true, Bool.not_true, Bool.not_false, eq_self, reduceCtorEq, Nat.sub_self, List.append_nil, law_small_ok, law_is_list_ok, gNe_ints, beq_self_eq_true]
theorem law_tail (ns : List Int) (c : Int) (n : Nat) (hn : n ≤ 20000) : g_law_t2 [.v (.ro (iL ns)), .v (.int c), .v (.int n), .un, .un, .un, .un, .un, .un, .un, .un] = .rt (.bl true) := by
  unfold g_law_t2
  have h1 : f__law_cell [.ro (iL ns), .int 1] = .ok (.int (cell ns 1)) := law_cell_ok ns 1
  refine (seq_nx (by (simp -implicitDefEqProofs only [fnV, fnN, finV, finN, startE, gSeq, gLet, gSet, gSetN, gRet, gRetN, gRetO, gRet0, gDrop, gIf, gNext, gOwn, gFreeze, gFor, gUnp, gPar, gSetIx, gBreak, gCont, dVar, dPeek, dC, dNew, dBin, dBinN, dUn, dBl, dIf, dAnd, dOr, dNot, dAndV, dOrV, dOfB, dNil, dCons, dCall, dCB, dCBN, dTru, dTup, dLst, dPair, dSl, oNone, oSome, ofO, dChain, chK, dIList, dITup, dRng, dLc, wipeE, R.bind_ok, R.bind_er, R.bind_no, fName, fTup, fCons, fNil, fLst, oTru, gAdd_i, gSub_i, gLt_i, gLe_i, gGt_i, gGe_i, gEq_i, gNe_i, gAnd_i, gOr_i, gXor_i, gLen_l, gLen_r, gLen_t, gLen_c, gIsi_e, tyD, kb_int_int, kb_int_bool, kb_int_list, kb_int_tuple, kb_bool_int, kb_bool_bool, kb_bool_list, kb_list_list, kb_list_int, kb_list_bool, kb_list_tuple, kb_tuple_tuple, kb_tuple_list, kb_tuple_int, kb_str_str, kb_str_int, kb_str_list, kb_non_list, kb_non_int, gList_l, gList_r, gList_t, gList_c, gzip_l, genum_l, gInt_i, gInt_b, gAbs_i, List.getElem?_cons_zero, List.getElem?_cons_succ, List.set_cons_zero, List.set_cons_succ, List.map_cons, List.map_nil, List.length_cons, List.length_nil, iL_len, Nat.reduceAdd, Nat.reduceSub, List.replicate_succ, List.replicate_zero, List.cons_append, List.nil_append, Nat.zero_add, Option.bind_some, Option.map_some, if_true, if_false, Bool.false_eq_true, Bool.not_true, Bool.not_false, eq_self, reduceCtorEq, Nat.sub_self, List.append_nil, h1, law_bytes_ok _ n (by omega)]) <;> rfl)).trans ?_
  have hd : (bytesOf (cell ns 1) n).length = n := bytesOf_len _ _
  generalize bytesOf (cell ns 1) n = data at hd
  obtain ⟨k, hk, hk2⟩ := toNat_mod (c / 61) (k := 30) (by decide)
  obtain ⟨j, e⟩ := for_fold (gf := fName 4) (gb := g_law_b1) (fun xs : List Int => D.lst (iL xs)) (fun (_ : Unit) (j : Sl × Sl × Sl) => [.v (.ro (iL ns)), .v (.int c), .v (.int n), .v (.lst (iL data)), j.1, .un, .un, .un, .un, j.2.1, j.2.2]) (fun _ _ => ()) [data, data ++ [255], List.replicate k 0] () (.un, .un, .un)
    (fun x a j hx => ⟨_, (.v (.lst (iL x)), .v (.lst (iL x)), .v (.lst (iL (smallCore x)))), rfl, .inl (law_turn _ _ _ _ data x _ _ _ _ _ _)⟩)
  refine (seq_nx (for_step (ds := [data, data ++ [255], List.replicate k 0].map fun xs : List Int => D.lst (iL xs)) ?_ e)).trans ?_
  · simp -implicitDefEqProofs only [fnV, fnN, finV, finN, startE, gSeq, gLet, gSet, gSetN, gRet, gRetN, gRetO, gRet0, gDrop, gIf, gNext, gOwn, gFreeze, gFor, gUnp, gPar, gSetIx, gBreak, gCont, dVar, dPeek, dC, dNew, dBin, dBinN, dUn, dBl, dIf, dAnd, dOr, dNot, dAndV, dOrV, dOfB, dNil, dCons, dCall, dCB, dCBN, dTru, dTup, dLst, dPair, dSl, oNone, oSome, ofO, dChain, chK, dIList, dITup, dRng, dLc, wipeE, R.bind_ok, R.bind_er, R.bind_no, fName, fTup, fCons, fNil, fLst, oTru, gAdd_i, gSub_i, gLt_i, gLe_i, gGt_i, gGe_i, gEq_i, gNe_i, gAnd_i, gOr_i, gXor_i, gLen_l, gLen_r, gLen_t, gLen_c, gIsi_e, tyD, kb_int_int, kb_int_bool, kb_int_list, kb_int_tuple, kb_bool_int, kb_bool_bool, kb_bool_list, kb_list_list, kb_list_int, kb_list_bool, kb_list_tuple, kb_tuple_tuple, kb_tuple_list, kb_tuple_int, kb_str_str, kb_str_int, kb_str_list, kb_non_list, kb_non_int, gList_l, gList_r, gList_t, gList_c, gzip_l, genum_l, gInt_i, gInt_b, gAbs_i, List.getElem?_cons_zero, List.getElem?_cons_succ, List.set_cons_zero, List.set_cons_succ, List.map_cons, List.map_nil, List.length_cons, List.length_nil, iL_len, Nat.reduceAdd, Nat.reduceSub, List.replicate_succ, List.replicate_zero, List.cons_append, List.nil_append, Nat.zero_add, Option.bind_some, Option.map_some, if_true, if_false, Bool.false_eq_true, Bool.not_true, Bool.not_false, eq_self, reduceCtorEq, Nat.sub_self, List.append_nil, gFDiv_s (j := 61) (by decide), gMod_i (j := 30) (by decide), hk, gRepN_l (xs := [D.int 0]) (k := (k : Int)) (by omega) (by simp only [List.length_cons, List.length_nil, Int.toNat_natCast]; exact line_le (by omega)) (by omega), Int.toNat_natCast, iL_rep,
      gCat_l (xs := iL data) (ys := [D.int 255]) (by rw [iL_len]; exact line_le (by simp; omega)), iL_app, (by rw [sizeLine_eq]; decide : 1 ≤ sizeLine), (by rw [sizeLine_eq]; decide : 0 + 1 + 1 + 1 ≤ sizeLine)]

  obtain ⟨at', ha, ha2⟩ := toNat_mod (c / 1830) (k := ((data.length : Int) + 1)) (by omega)
  obtain ⟨low, hl, hl2⟩ := toNat_mod (c / 113460) (k := 242) (by decide)
  refine (seq_nx (by (simp -implicitDefEqProofs only [fnV, fnN, finV, finN, startE, gSeq, gLet, gSet, gSetN, gRet, gRetN, gRetO, gRet0, gDrop, gIf, gNext, gOwn, gFreeze, gFor, gUnp, gPar, gSetIx, gBreak, gCont, dVar, dPeek, dC, dNew, dBin, dBinN, dUn, dBl, dIf, dAnd, dOr, dNot, dAndV, dOrV, dOfB, dNil, dCons, dCall, dCB, dCBN, dTru, dTup, dLst, dPair, dSl, oNone, oSome, ofO, dChain, chK, dIList, dITup, dRng, dLc, wipeE, R.bind_ok, R.bind_er, R.bind_no, fName, fTup, fCons, fNil, fLst, oTru, gAdd_i, gSub_i, gLt_i, gLe_i, gGt_i, gGe_i, gEq_i, gNe_i, gAnd_i, gOr_i, gXor_i, gLen_l, gLen_r, gLen_t, gLen_c, gIsi_e, tyD, kb_int_int, kb_int_bool, kb_int_list, kb_int_tuple, kb_bool_int, kb_bool_bool, kb_bool_list, kb_list_list, kb_list_int, kb_list_bool, kb_list_tuple, kb_tuple_tuple, kb_tuple_list, kb_tuple_int, kb_str_str, kb_str_int, kb_str_list, kb_non_list, kb_non_int, gList_l, gList_r, gList_t, gList_c, gzip_l, genum_l, gInt_i, gInt_b, gAbs_i, List.getElem?_cons_zero, List.getElem?_cons_succ, List.set_cons_zero, List.set_cons_succ, List.map_cons, List.map_nil, List.length_cons, List.length_nil, iL_len, Nat.reduceAdd, Nat.reduceSub, List.replicate_succ, List.replicate_zero, List.cons_append, List.nil_append, Nat.zero_add, Option.bind_some, Option.map_some, if_true, if_false, Bool.false_eq_true, Bool.not_true, Bool.not_false, eq_self, reduceCtorEq, Nat.sub_self, List.append_nil, gFDiv_s (j := 1830) (by decide), gMod_i (j := (data.length : Int) + 1) (by omega), ha, iL_len]) <;> rfl)).trans ?_
  refine (seq_nx (by (simp -implicitDefEqProofs only [fnV, fnN, finV, finN, startE, gSeq, gLet, gSet, gSetN, gRet, gRetN, gRetO, gRet0, gDrop, gIf, gNext, gOwn, gFreeze, gFor, gUnp, gPar, gSetIx, gBreak, gCont, dVar, dPeek, dC, dNew, dBin, dBinN, dUn, dBl, dIf, dAnd, dOr, dNot, dAndV, dOrV, dOfB, dNil, dCons, dCall, dCB, dCBN, dTru, dTup, dLst, dPair, dSl, oNone, oSome, ofO, dChain, chK, dIList, dITup, dRng, dLc, wipeE, R.bind_ok, R.bind_er, R.bind_no, fName, fTup, fCons, fNil, fLst, oTru, gAdd_i, gSub_i, gLt_i, gLe_i, gGt_i, gGe_i, gEq_i, gNe_i, gAnd_i, gOr_i, gXor_i, gLen_l, gLen_r, gLen_t, gLen_c, gIsi_e, tyD, kb_int_int, kb_int_bool, kb_int_list, kb_int_tuple, kb_bool_int, kb_bool_bool, kb_bool_list, kb_list_list, kb_list_int, kb_list_bool, kb_list_tuple, kb_tuple_tuple, kb_tuple_list, kb_tuple_int, kb_str_str, kb_str_int, kb_str_list, kb_non_list, kb_non_int, gList_l, gList_r, gList_t, gList_c, gzip_l, genum_l, gInt_i, gInt_b, gAbs_i, List.getElem?_cons_zero, List.getElem?_cons_succ, List.set_cons_zero, List.set_cons_succ, List.map_cons, List.map_nil, List.length_cons, List.length_nil, iL_len, Nat.reduceAdd, Nat.reduceSub, List.replicate_succ, List.replicate_zero, List.cons_append, List.nil_append, Nat.zero_add, Option.bind_some, Option.map_some, if_true, if_false, Bool.false_eq_true, Bool.not_true, Bool.not_false, eq_self, reduceCtorEq, Nat.sub_self, List.append_nil, gFDiv_s (j := 113460) (by decide), gMod_i (j := 242) (by decide), hl]) <;> rfl)).trans ?_
  have hs : 2 ≤ sizeLine := by rw [sizeLine_eq]; decide
  have t1 : (data.take at').length ≤ n := by rw [List.length_take]; omega
  have t2 : (data.drop at').length ≤ n := by rw [List.length_drop]; omega
  have p1 : ∀ x y : Int, [D.int x, D.int y] = iL [x, y] := fun _ _ => rfl
  refine (seq_nx (by (simp -implicitDefEqProofs only [fnV, fnN, finV, finN, startE, gSeq, gLet, gSet, gSetN, gRet, gRetN, gRetO, gRet0, gDrop, gIf, gNext, gOwn, gFreeze, gFor, gUnp, gPar, gSetIx, gBreak, gCont, dVar, dPeek, dC, dNew, dBin, dBinN, dUn, dBl, dIf, dAnd, dOr, dNot, dAndV, dOrV, dOfB, dNil, dCons, dCall, dCB, dCBN, dTru, dTup, dLst, dPair, dSl, oNone, oSome, ofO, dChain, chK, dIList, dITup, dRng, dLc, wipeE, R.bind_ok, R.bind_er, R.bind_no, fName, fTup, fCons, fNil, fLst, oTru, gAdd_i, gSub_i, gLt_i, gLe_i, gGt_i, gGe_i, gEq_i, gNe_i, gAnd_i, gOr_i, gXor_i, gLen_l, gLen_r, gLen_t, gLen_c, gIsi_e, tyD, kb_int_int, kb_int_bool, kb_int_list, kb_int_tuple, kb_bool_int, kb_bool_bool, kb_bool_list, kb_list_list, kb_list_int, kb_list_bool, kb_list_tuple, kb_tuple_tuple, kb_tuple_list, kb_tuple_int, kb_str_str, kb_str_int, kb_str_list, kb_non_list, kb_non_int, gList_l, gList_r, gList_t, gList_c, gzip_l, genum_l, gInt_i, gInt_b, gAbs_i, List.getElem?_cons_zero, List.getElem?_cons_succ, List.set_cons_zero, List.set_cons_succ, List.map_cons, List.map_nil, List.length_cons, List.length_nil, iL_len, Nat.reduceAdd, Nat.reduceSub, List.replicate_succ, List.replicate_zero, List.cons_append, List.nil_append, Nat.zero_add, Option.bind_some, Option.map_some, if_true, if_false, Bool.false_eq_true, Bool.not_true, Bool.not_false, eq_self, reduceCtorEq, Nat.sub_self, List.append_nil, cutD_to, cutD_from, iL_take, iL_drop, hs, p1, gCat_l (xs := iL (data.take at')) (ys := iL [0, (low : Int) + 14]) (by rw [iL_len, iL_len]; exact line_le (by simp; omega)), iL_cat,
    gCat_l (xs := iL (data.take at' ++ [0, (low : Int) + 14])) (ys := iL (data.drop at')) (by rw [iL_len, iL_len]; exact line_le (by simp; omega))]) <;> rfl)).trans ?_
  refine (seq_nx (by (simp -implicitDefEqProofs only [fnV, fnN, finV, finN, startE, gSeq, gLet, gSet, gSetN, gRet, gRetN, gRetO, gRet0, gDrop, gIf, gNext, gOwn, gFreeze, gFor, gUnp, gPar, gSetIx, gBreak, gCont, dVar, dPeek, dC, dNew, dBin, dBinN, dUn, dBl, dIf, dAnd, dOr, dNot, dAndV, dOrV, dOfB, dNil, dCons, dCall, dCB, dCBN, dTru, dTup, dLst, dPair, dSl, oNone, oSome, ofO, dChain, chK, dIList, dITup, dRng, dLc, wipeE, R.bind_ok, R.bind_er, R.bind_no, fName, fTup, fCons, fNil, fLst, oTru, gAdd_i, gSub_i, gLt_i, gLe_i, gGt_i, gGe_i, gEq_i, gNe_i, gAnd_i, gOr_i, gXor_i, gLen_l, gLen_r, gLen_t, gLen_c, gIsi_e, tyD, kb_int_int, kb_int_bool, kb_int_list, kb_int_tuple, kb_bool_int, kb_bool_bool, kb_bool_list, kb_list_list, kb_list_int, kb_list_bool, kb_list_tuple, kb_tuple_tuple, kb_tuple_list, kb_tuple_int, kb_str_str, kb_str_int, kb_str_list, kb_non_list, kb_non_int, gList_l, gList_r, gList_t, gList_c, gzip_l, genum_l, gInt_i, gInt_b, gAbs_i, List.getElem?_cons_zero, List.getElem?_cons_succ, List.set_cons_zero, List.set_cons_succ, List.map_cons, List.map_nil, List.length_cons, List.length_nil, iL_len, Nat.reduceAdd, Nat.reduceSub, List.replicate_succ, List.replicate_zero, List.cons_append, List.nil_append, Nat.zero_add, Option.bind_some, Option.map_some, if_true, if_false, Bool.false_eq_true, Bool.not_true, Bool.not_false, eq_self, reduceCtorEq, Nat.sub_self, List.append_nil, cutD_to, cutD_from, iL_take, iL_drop, hs, p1, gCat_l (xs := iL (data.take at')) (ys := iL [255, (low : Int)]) (by rw [iL_len, iL_len]; exact line_le (by simp; omega)), iL_cat,
    gCat_l (xs := iL (data.take at' ++ [255, (low : Int)])) (ys := iL (data.drop at')) (by rw [iL_len, iL_len]; exact line_le (by simp; omega))]) <;> rfl)).trans ?_
  simp -implicitDefEqProofs only [fnV, fnN, finV, finN, startE, gSeq, gLet, gSet, gSetN, gRet, gRetN, gRetO, gRet0, gDrop, gIf, gNext, gOwn, gFreeze, gFor, gUnp, gPar, gSetIx, gBreak, gCont, dVar, dPeek, dC, dNew, dBin, dBinN, dUn, dBl, dIf, dAnd, dOr, dNot, dAndV, dOrV, dOfB, dNil, dCons, dCall, dCB, dCBN, dTru, dTup, dLst, dPair, dSl, oNone, oSome, ofO, dChain, chK, dIList, dITup, dRng, dLc, wipeE, R.bind_ok, R.bind_er, R.bind_no, fName, fTup, fCons, fNil, fLst, oTru, gAdd_i, gSub_i, gLt_i, gLe_i, gGt_i, gGe_i, gEq_i, gNe_i, gAnd_i, gOr_i, gXor_i, gLen_l, gLen_r, gLen_t, gLen_c, gIsi_e, tyD, kb_int_int, kb_int_bool, kb_int_list, kb_int_tuple, kb_bool_int, kb_bool_bool, kb_bool_list, kb_list_list, kb_list_int, kb_list_bool, kb_list_tuple, kb_tuple_tuple, kb_tuple_list, kb_tuple_int, kb_str_str, kb_str_int, kb_str_list, kb_non_list, kb_non_int, gList_l, gList_r, gList_t, gList_c, gzip_l, genum_l, gInt_i, gInt_b, gAbs_i, List.getElem?_cons_zero, List.getElem?_cons_succ, List.set_cons_zero, List.set_cons_succ, List.map_cons, List.map_nil, List.length_cons, List.length_nil, iL_len, Nat.reduceAdd, Nat.reduceSub, List.replicate_succ, List.replicate_zero, List.cons_append, List.nil_append, Nat.zero_add, Option.bind_some, Option.map_some, if_true, if_false, Bool.false_eq_true, Bool.not_true, Bool.not_false, eq_self, reduceCtorEq, Nat.sub_self, List.append_nil, small_core_ok, law_small_ok, smallCore_pair, gEq_ints, beq_self_eq_true]
theorem law_true (ns : List Int) (h : ns.length ≤ 63) (hb : ∀ z ∈ ns, Builtin.Int.intBits z ≤ 1048576) : f_law [.ro (ns.map .int)] = .ok (.bl true) := by
  rw [← iL_map]
  refine fnV_rt ?_
  unfold g_law
  have h0 : f__law_cell [.ro (iL ns), .int 0] = .ok (.int (cell ns 0)) := law_cell_ok ns 0
  refine (seq_nx (by (simp -implicitDefEqProofs only [fnV, fnN, finV, finN, startE, gSeq, gLet, gSet, gSetN, gRet, gRetN, gRetO, gRet0, gDrop, gIf, gNext, gOwn, gFreeze, gFor, gUnp, gPar, gSetIx, gBreak, gCont, dVar, dPeek, dC, dNew, dBin, dBinN, dUn, dBl, dIf, dAnd, dOr, dNot, dAndV, dOrV, dOfB, dNil, dCons, dCall, dCB, dCBN, dTru, dTup, dLst, dPair, dSl, oNone, oSome, ofO, dChain, chK, dIList, dITup, dRng, dLc, wipeE, R.bind_ok, R.bind_er, R.bind_no, fName, fTup, fCons, fNil, fLst, oTru, gAdd_i, gSub_i, gLt_i, gLe_i, gGt_i, gGe_i, gEq_i, gNe_i, gAnd_i, gOr_i, gXor_i, gLen_l, gLen_r, gLen_t, gLen_c, gIsi_e, tyD, kb_int_int, kb_int_bool, kb_int_list, kb_int_tuple, kb_bool_int, kb_bool_bool, kb_bool_list, kb_list_list, kb_list_int, kb_list_bool, kb_list_tuple, kb_tuple_tuple, kb_tuple_list, kb_tuple_int, kb_str_str, kb_str_int, kb_str_list, kb_non_list, kb_non_int, gList_l, gList_r, gList_t, gList_c, gzip_l, genum_l, gInt_i, gInt_b, gAbs_i, List.getElem?_cons_zero, List.getElem?_cons_succ, List.set_cons_zero, List.set_cons_succ, List.map_cons, List.map_nil, List.length_cons, List.length_nil, iL_len, Nat.reduceAdd, Nat.reduceSub, List.replicate_succ, List.replicate_zero, List.cons_append, List.nil_append, Nat.zero_add, Option.bind_some, Option.map_some, if_true, if_false, Bool.false_eq_true, Bool.not_true, Bool.not_false, eq_self, reduceCtorEq, Nat.sub_self, List.append_nil, h0]) <;> rfl)).trans ?_
  generalize (if cell ns 0 < 0 then -cell ns 0 else cell ns 0) = c
  obtain ⟨n, hn, hn2⟩ := toNat_mod c (k := 61) (by decide)
  refine (seq_nx (by (simp -implicitDefEqProofs only [fnV, fnN, finV, finN, startE, gSeq, gLet, gSet, gSetN, gRet, gRetN, gRetO, gRet0, gDrop, gIf, gNext, gOwn, gFreeze, gFor, gUnp, gPar, gSetIx, gBreak, gCont, dVar, dPeek, dC, dNew, dBin, dBinN, dUn, dBl, dIf, dAnd, dOr, dNot, dAndV, dOrV, dOfB, dNil, dCons, dCall, dCB, dCBN, dTru, dTup, dLst, dPair, dSl, oNone, oSome, ofO, dChain, chK, dIList, dITup, dRng, dLc, wipeE, R.bind_ok, R.bind_er, R.bind_no, fName, fTup, fCons, fNil, fLst, oTru, gAdd_i, gSub_i, gLt_i, gLe_i, gGt_i, gGe_i, gEq_i, gNe_i, gAnd_i, gOr_i, gXor_i, gLen_l, gLen_r, gLen_t, gLen_c, gIsi_e, tyD, kb_int_int, kb_int_bool, kb_int_list, kb_int_tuple, kb_bool_int, kb_bool_bool, kb_bool_list, kb_list_list, kb_list_int, kb_list_bool, kb_list_tuple, kb_tuple_tuple, kb_tuple_list, kb_tuple_int, kb_str_str, kb_str_int, kb_str_list, kb_non_list, kb_non_int, gList_l, gList_r, gList_t, gList_c, gzip_l, genum_l, gInt_i, gInt_b, gAbs_i, List.getElem?_cons_zero, List.getElem?_cons_succ, List.set_cons_zero, List.set_cons_succ, List.map_cons, List.map_nil, List.length_cons, List.length_nil, iL_len, Nat.reduceAdd, Nat.reduceSub, List.replicate_succ, List.replicate_zero, List.cons_append, List.nil_append, Nat.zero_add, Option.bind_some, Option.map_some, if_true, if_false, Bool.false_eq_true, Bool.not_true, Bool.not_false, eq_self, reduceCtorEq, Nat.sub_self, List.append_nil, gMod_i (j := 61) (by decide), hn]) <;> rfl)).trans ?_
  obtain ⟨m, hm, hm2⟩ := toNat_mod (c / 976) (k := 16000) (by decide)
  by_cases q : (c / 61 % 16 == 1) = true
  · refine (seq_nx (by (simp -implicitDefEqProofs only [fnV, fnN, finV, finN, startE, gSeq, gLet, gSet, gSetN, gRet, gRetN, gRetO, gRet0, gDrop, gIf, gNext, gOwn, gFreeze, gFor, gUnp, gPar, gSetIx, gBreak, gCont, dVar, dPeek, dC, dNew, dBin, dBinN, dUn, dBl, dIf, dAnd, dOr, dNot, dAndV, dOrV, dOfB, dNil, dCons, dCall, dCB, dCBN, dTru, dTup, dLst, dPair, dSl, oNone, oSome, ofO, dChain, chK, dIList, dITup, dRng, dLc, wipeE, R.bind_ok, R.bind_er, R.bind_no, fName, fTup, fCons, fNil, fLst, oTru, gAdd_i, gSub_i, gLt_i, gLe_i, gGt_i, gGe_i, gEq_i, gNe_i, gAnd_i, gOr_i, gXor_i, gLen_l, gLen_r, gLen_t, gLen_c, gIsi_e, tyD, kb_int_int, kb_int_bool, kb_int_list, kb_int_tuple, kb_bool_int, kb_bool_bool, kb_bool_list, kb_list_list, kb_list_int, kb_list_bool, kb_list_tuple, kb_tuple_tuple, kb_tuple_list, kb_tuple_int, kb_str_str, kb_str_int, kb_str_list, kb_non_list, kb_non_int, gList_l, gList_r, gList_t, gList_c, gzip_l, genum_l, gInt_i, gInt_b, gAbs_i, List.getElem?_cons_zero, List.getElem?_cons_succ, List.set_cons_zero, List.set_cons_succ, List.map_cons, List.map_nil, List.length_cons, List.length_nil, iL_len, Nat.reduceAdd, Nat.reduceSub, List.replicate_succ, List.replicate_zero, List.cons_append, List.nil_append, Nat.zero_add, Option.bind_some, Option.map_some, if_true, if_false, Bool.false_eq_true, Bool.not_true, Bool.not_false, eq_self, reduceCtorEq, Nat.sub_self, List.append_nil, gFDiv_s (j := 61) (by decide), gMod_i (j := 16) (by decide), q, gFDiv_s (j := 976) (by decide), gMod_i (j := 16000) (by decide), hm]) <;> rfl)).trans ?_
    have e : (61 : Int) + m = ((61 + m : Nat) : Int) := by omega
    rw [e]
    exact law_tail ns c (61 + m) (by omega)
  · refine (seq_nx (by (simp -implicitDefEqProofs only [fnV, fnN, finV, finN, startE, gSeq, gLet, gSet, gSetN, gRet, gRetN, gRetO, gRet0, gDrop, gIf, gNext, gOwn, gFreeze, gFor, gUnp, gPar, gSetIx, gBreak, gCont, dVar, dPeek, dC, dNew, dBin, dBinN, dUn, dBl, dIf, dAnd, dOr, dNot, dAndV, dOrV, dOfB, dNil, dCons, dCall, dCB, dCBN, dTru, dTup, dLst, dPair, dSl, oNone, oSome, ofO, dChain, chK, dIList, dITup, dRng, dLc, wipeE, R.bind_ok, R.bind_er, R.bind_no, fName, fTup, fCons, fNil, fLst, oTru, gAdd_i, gSub_i, gLt_i, gLe_i, gGt_i, gGe_i, gEq_i, gNe_i, gAnd_i, gOr_i, gXor_i, gLen_l, gLen_r, gLen_t, gLen_c, gIsi_e, tyD, kb_int_int, kb_int_bool, kb_int_list, kb_int_tuple, kb_bool_int, kb_bool_bool, kb_bool_list, kb_list_list, kb_list_int, kb_list_bool, kb_list_tuple, kb_tuple_tuple, kb_tuple_list, kb_tuple_int, kb_str_str, kb_str_int, kb_str_list, kb_non_list, kb_non_int, gList_l, gList_r, gList_t, gList_c, gzip_l, genum_l, gInt_i, gInt_b, gAbs_i, List.getElem?_cons_zero, List.getElem?_cons_succ, List.set_cons_zero, List.set_cons_succ, List.map_cons, List.map_nil, List.length_cons, List.length_nil, iL_len, Nat.reduceAdd, Nat.reduceSub, List.replicate_succ, List.replicate_zero, List.cons_append, List.nil_append, Nat.zero_add, Option.bind_some, Option.map_some, if_true, if_false, Bool.false_eq_true, Bool.not_true, Bool.not_false, eq_self, reduceCtorEq, Nat.sub_self, List.append_nil, gFDiv_s (j := 61) (by decide), gMod_i (j := 16) (by decide), q]) <;> rfl)).trans ?_
    exact law_tail ns c n (by omega)
end VL
namespace VL
open PySem PySem.Spec PyProof.Rows L2
theorem cx_false {P : Program} {w : World} {H : Hp} {s : Shared} {e : Value} {s' : Shared} {o : List Env} (h : L2.CX P w o H s (fun _ _ _ => False) e s') : False := by
  obtain ⟨_, _, _, _, _, _, _, _, _, _, _, _, z⟩ := h
  exact z
theorem repL_ints {K : PySem.W.Frag} {B : Hp} : ∀ ns : List Int, RepL K B (ns.map D.int) (ns.map V.int)
  | [] => .nil
  | n :: r => .cons (.int n) (repL_ints r)
theorem all_mk {l : PySem.W.OpenLaw} {w : World} {K : PySem.W.Frag} {h : Heap} {mg : Str → Option Value} {fa f1 f2 f3 f4 f5 f6 f7 f8 : Addr} (X : K.In h) (G : h.Ns mainGlobals mg) (hfa : mg "law" = some (.ref fa)) {od1 an1 : Option Addr} {sl1 : Array (Option Value)} {oc1 kV1 dc1 pm1 cd1 ct1 : Value} {od2 an2 : Option Addr} {sl2 : Array (Option Value)} {oc2 kV2 dc2 pm2 cd2 ct2 : Value} {od3 an3 : Option Addr} {sl3 : Array (Option Value)} {oc3 kV3 dc3 pm3 cd3 ct3 : Value} {od4 an4 : Option Addr} {sl4 : Array (Option Value)} {oc4 kV4 dc4 pm4 cd4 ct4 : Value} {od5 an5 : Option Addr} {sl5 : Array (Option Value)} {oc5 kV5 dc5 pm5 cd5 ct5 : Value} {od6 an6 : Option Addr} {sl6 : Array (Option Value)} {oc6 kV6 dc6 pm6 cd6 ct6 : Value} {od7 an7 : Option Addr} {sl7 : Array (Option Value)} {oc7 kV7 dc7 pm7 cd7 ct7 : Value} {od8 an8 : Option Addr} {sl8 : Array (Option Value)} {oc8 kV8 dc8 pm8 cd8 ct8 : Value} {t_PRIME : Tok}
    (a1 : PySem.W.nsIn K mainGlobals "small_core" = some (some (.ref f1)))
    (l1 : K.lookup f1 = some ⟨oc1, od1, .func (PySem.W.fnOf "small_core" "small_core" (defArgs s_small_core) (defBody s_small_core) (defScope s_small_core) .none kV1 dc1 pm1 an1 cd1 ct1), sl1⟩)
    (c1 : PySem.W.codeIn K cd1 "small_core" = true)
    (k1 : PySem.W.keepIn K (.ref f1) = true)
    (a2 : PySem.W.nsIn K mainGlobals "_law_cell" = some (some (.ref f2)))
    (l2 : K.lookup f2 = some ⟨oc2, od2, .func (PySem.W.fnOf "_law_cell" "_law_cell" (defArgs s__law_cell) (defBody s__law_cell) (defScope s__law_cell) .none kV2 dc2 pm2 an2 cd2 ct2), sl2⟩)
    (c2 : PySem.W.codeIn K cd2 "_law_cell" = true)
    (k2 : PySem.W.keepIn K (.ref f2) = true)
    (a3 : PySem.W.nsIn K mainGlobals "_law_mixed" = some (some (.ref f3)))
    (l3 : K.lookup f3 = some ⟨oc3, od3, .func (PySem.W.fnOf "_law_mixed" "_law_mixed" (defArgs s__law_mixed) (defBody s__law_mixed) (defScope s__law_mixed) .none kV3 dc3 pm3 an3 cd3 ct3), sl3⟩)
    (c3 : PySem.W.codeIn K cd3 "_law_mixed" = true)
    (k3 : PySem.W.keepIn K (.ref f3) = true)
    (a4 : PySem.W.nsIn K mainGlobals "_law_bytes" = some (some (.ref f4)))
    (l4 : K.lookup f4 = some ⟨oc4, od4, .func (PySem.W.fnOf "_law_bytes" "_law_bytes" (defArgs s__law_bytes) (defBody s__law_bytes) (defScope s__law_bytes) .none kV4 dc4 pm4 an4 cd4 ct4), sl4⟩)
    (c4 : PySem.W.codeIn K cd4 "_law_bytes" = true)
    (k4 : PySem.W.keepIn K (.ref f4) = true)
    (a5 : PySem.W.nsIn K mainGlobals "_law_integer" = some (some (.ref f5)))
    (l5 : K.lookup f5 = some ⟨oc5, od5, .func (PySem.W.fnOf "_law_integer" "_law_integer" (defArgs s__law_integer) (defBody s__law_integer) (defScope s__law_integer) .none kV5 dc5 pm5 an5 cd5 ct5), sl5⟩)
    (c5 : PySem.W.codeIn K cd5 "_law_integer" = true)
    (k5 : PySem.W.keepIn K (.ref f5) = true)
    (a6 : PySem.W.nsIn K mainGlobals "_law_is_list" = some (some (.ref f6)))
    (l6 : K.lookup f6 = some ⟨oc6, od6, .func (PySem.W.fnOf "_law_is_list" "_law_is_list" (defArgs s__law_is_list) (defBody s__law_is_list) (defScope s__law_is_list) .none kV6 dc6 pm6 an6 cd6 ct6), sl6⟩)
    (c6 : PySem.W.codeIn K cd6 "_law_is_list" = true)
    (k6 : PySem.W.keepIn K (.ref f6) = true)
    (a7 : PySem.W.nsIn K mainGlobals "_law_small" = some (some (.ref f7)))
    (l7 : K.lookup f7 = some ⟨oc7, od7, .func (PySem.W.fnOf "_law_small" "_law_small" (defArgs s__law_small) (defBody s__law_small) (defScope s__law_small) .none kV7 dc7 pm7 an7 cd7 ct7), sl7⟩)
    (c7 : PySem.W.codeIn K cd7 "_law_small" = true)
    (k7 : PySem.W.keepIn K (.ref f7) = true)
    (a8 : PySem.W.nsIn K mainGlobals "law" = some (some (.ref f8)))
    (l8 : K.lookup f8 = some ⟨oc8, od8, .func (PySem.W.fnOf "law" "law" (defArgs s_law) (defBody s_law) (defScope s_law) .none kV8 dc8 pm8 an8 cd8 ct8), sl8⟩)
    (c8 : PySem.W.codeIn K cd8 "law" = true)
    (k8 : PySem.W.keepIn K (.ref f8) = true)
    (z_abs : PySem.W.nsIn K mainGlobals "abs" = some none)
    (z_bool : PySem.W.nsIn K mainGlobals "bool" = some none)
    (z_int : PySem.W.nsIn K mainGlobals "int" = some none)
    (z_isinstance : PySem.W.nsIn K mainGlobals "isinstance" = some none)
    (z_len : PySem.W.nsIn K mainGlobals "len" = some none)
    (z_list : PySem.W.nsIn K mainGlobals "list" = some none)
    (z_range : PySem.W.nsIn K mainGlobals "range" = some none)
    (z_zip : PySem.W.nsIn K mainGlobals "zip" = some none)
    (q_PRIME : PySem.W.nsIn K mainGlobals "PRIME" = some (some (.int 65521 t_PRIME)))
    : ∃ fd : FuncData, (∀ (s : Shared) (v : Value), BindsTo s fd ⟨[v], []⟩ [("script", v)]) ∧ ∀ base : Heap, K.In base → base.Ns mainGlobals mg → FnOk l.prog w K mg base (L2.CX l.prog w) 3 fa fd ["script"] (spV K 1 f_law) := by
  have e := hfa.symm.trans (PySem.W.mg_of X G a8)
  cases e
  have m_abs := PySem.W.mg_none_of X G z_abs
  have m_bool := PySem.W.mg_none_of X G z_bool
  have m_int := PySem.W.mg_none_of X G z_int
  have m_isinstance := PySem.W.mg_none_of X G z_isinstance
  have m_len := PySem.W.mg_none_of X G z_len
  have m_list := PySem.W.mg_none_of X G z_list
  have m_range := PySem.W.mg_none_of X G z_range
  have m_zip := PySem.W.mg_none_of X G z_zip
  have c_PRIME : ∃ t, mg "PRIME" = some (.int 65521 t) := ⟨_, PySem.W.mg_of X G q_PRIME⟩
  have F1 := fun_mk (st := s_small_core) l1 c1 k1
  have F2 := fun_mk (st := s__law_cell) l2 c2 k2
  have F3 := fun_mk (st := s__law_mixed) l3 c3 k3
  have F4 := fun_mk (st := s__law_bytes) l4 c4 k4
  have F5 := fun_mk (st := s__law_integer) l5 c5 k5
  have F6 := fun_mk (st := s__law_is_list) l6 c6 k6
  have F7 := fun_mk (st := s__law_small) l7 c7 k7
  have F8 := fun_mk (st := s_law) l8 c8 k8
  refine ⟨PySem.W.fnOf "law" "law" (defArgs s_law) (defBody s_law) (defScope s_law) .none kV8 dc8 pm8 an8 cd8 ct8, fun s v => .of_eq rfl, fun base _ _ => ?_⟩
  have F_small_core : DefAt l.prog w K mg base "small_core" 1 1 (spN K 1 f_small_core) := ⟨_, _, ["data"], ok_small_core (P := l.prog) (w := w) (base := base) F1 m_len m_range c_PRIME, PySem.W.mg_of X G a1, F1.kp, F1.binds (ps := ["data"]) (fun _ _ _ _ _ _ us hl => match us, hl with | [_], _ => rfl), rfl⟩
  have F__law_cell : DefAt l.prog w K mg base "_law_cell" 1 2 (spV K 2 f__law_cell) := ⟨_, _, ["script", "k"], ok__law_cell (P := l.prog) (w := w) (base := base) F2 m_int m_len, PySem.W.mg_of X G a2, F2.kp, F2.binds (ps := ["script", "k"]) (fun _ _ _ _ _ _ us hl => match us, hl with | [_, _], _ => rfl), rfl⟩
  have F__law_mixed : DefAt l.prog w K mg base "_law_mixed" 1 2 (spV K 2 f__law_mixed) := ⟨_, _, ["cell", "k"], ok__law_mixed (P := l.prog) (w := w) (base := base) F3 m_int, PySem.W.mg_of X G a3, F3.kp, F3.binds (ps := ["cell", "k"]) (fun _ _ _ _ _ _ us hl => match us, hl with | [_, _], _ => rfl), rfl⟩
  have F__law_bytes : DefAt l.prog w K mg base "_law_bytes" 2 2 (spN K 2 f__law_bytes) := ⟨_, _, ["cell", "size"], ok__law_bytes (P := l.prog) (w := w) (base := base) F4 m_abs m_int m_range F__law_mixed, PySem.W.mg_of X G a4, F4.kp, F4.binds (ps := ["cell", "size"]) (fun _ _ _ _ _ _ us hl => match us, hl with | [_, _], _ => rfl), rfl⟩
  have F__law_integer : DefAt l.prog w K mg base "_law_integer" 1 1 (spV K 1 f__law_integer) := ⟨_, _, ["value"], ok__law_integer (P := l.prog) (w := w) (base := base) F5 m_bool m_int m_isinstance, PySem.W.mg_of X G a5, F5.kp, F5.binds (ps := ["value"]) (fun _ _ _ _ _ _ us hl => match us, hl with | [_], _ => rfl), rfl⟩
  have F__law_is_list : DefAt l.prog w K mg base "_law_is_list" 2 2 (spV K 2 f__law_is_list) := ⟨_, _, ["found", "due"], ok__law_is_list (P := l.prog) (w := w) (base := base) F6 m_isinstance m_len m_list m_zip F__law_integer, PySem.W.mg_of X G a6, F6.kp, F6.binds (ps := ["found", "due"]) (fun _ _ _ _ _ _ us hl => match us, hl with | [_, _], _ => rfl), rfl⟩
  have F__law_small : DefAt l.prog w K mg base "_law_small" 1 1 (spN K 1 f__law_small) := ⟨_, _, ["data"], ok__law_small (P := l.prog) (w := w) (base := base) F7 m_int m_len m_range, PySem.W.mg_of X G a7, F7.kp, F7.binds (ps := ["data"]) (fun _ _ _ _ _ _ us hl => match us, hl with | [_], _ => rfl), rfl⟩
  exact ok_law (P := l.prog) (w := w) (base := base) F8 m_abs m_int m_len m_list F__law_bytes F__law_cell F__law_is_list F__law_small F_small_core
end VL
open PySem PySem.W PyProof.Rows
set_option maxRecDepth 100000 in
set_option maxHeartbeats 0 in
theorem PySem.Challenge.cw_sealgrove_k03_the_small_core_holds : PySem.Challenge.rw_sealgrove_k03_the_small_core.Holds := by
  w_on; o_law; k_head; (case hw => w_witness2)
  k_fill
  refine L2.walk_ofB (l := PySem.Challenge.rw_sealgrove_k03_the_small_core) (n := 63) (k := 3) (x := "script") (CX := fun w => L2.CX PySem.Challenge.rw_sealgrove_k03_the_small_core.prog w) (sp := fun w => VL.spV _ 1 VL.f_law) rfl (by decide) rfl ⟨rfl, by decide, by decide⟩ (fun w h Y => PySem.W.kIn_of Y) ?F (fun w H a ns hl hb _ hS => ⟨H, [.ro (ns.map .int)], fun _ _ h => h, .cons (.ro hS (VL.repL_ints ns)) .nil, rfl, by
    rw [VL.law_true ns hl hb]
    intro v B' H' _ hv
    cases hv
    rfl⟩) (fun _ _ _ _ _ h => VL.cx_false h)
  case F =>
    intro w mg fa h KX G hmg
    refine' VL.all_mk KX G hmg ?a1 ?l1 ?c1 ?k1 ?a2 ?l2 ?c2 ?k2 ?a3 ?l3 ?c3 ?k3 ?a4 ?l4 ?c4 ?k4 ?a5 ?l5 ?c5 ?k5 ?a6 ?l6 ?c6 ?k6 ?a7 ?l7 ?c7 ?k7 ?a8 ?l8 ?c8 ?k8 ?z_abs ?z_bool ?z_int ?z_isinstance ?z_len ?z_list ?z_range ?z_zip ?q_PRIME
    (case a1 => k_is)
    (case l1 => k_is)
    (case c1 => k_is)
    (case k1 => k_is)
    (case a2 => k_is)
    (case l2 => k_is)
    (case c2 => k_is)
    (case k2 => k_is)
    (case a3 => k_is)
    (case l3 => k_is)
    (case c3 => k_is)
    (case k3 => k_is)
    (case a4 => k_is)
    (case l4 => k_is)
    (case c4 => k_is)
    (case k4 => k_is)
    (case a5 => k_is)
    (case l5 => k_is)
    (case c5 => k_is)
    (case k5 => k_is)
    (case a6 => k_is)
    (case l6 => k_is)
    (case c6 => k_is)
    (case k6 => k_is)
    (case a7 => k_is)
    (case l7 => k_is)
    (case c7 => k_is)
    (case k7 => k_is)
    (case a8 => k_is)
    (case l8 => k_is)
    (case c8 => k_is)
    (case k8 => k_is)
    (case z_abs => k_is)
    (case z_bool => k_is)
    (case z_int => k_is)
    (case z_isinstance => k_is)
    (case z_len => k_is)
    (case z_list => k_is)
    (case z_range => k_is)
    (case z_zip => k_is)
    (case q_PRIME => k_is)
namespace VL
end VL
