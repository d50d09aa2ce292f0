import PyProof.Rows.All
import Wide.All
import OpenK.AllK
import Wide.FinOn
import HandS.ForMost
import HandS.ForExc
import HandS.Flow
import HandS.Wide
import HandS.WideMore
import HandS.IsInst
import HandS.CallSlots
import HandS.ExcInit
import HandS.FStr
import HandS.Style
import HandS.Conv
import HandS.SortInts
import HandS.Defaults
import HandS.TupAny
import HandS.Zip
import HandS.Rev
import HandS.FStrTup
import HandS.ExcField
import HandS.HotCalls
import KE.KExcIs
import KE.DataFind
import KE.KIntText
import PySem.Challenge.RW_latecopy_k43_folds
set_option Elab.async false
set_option linter.all false
set_option autoImplicit false
set_option maxRecDepth 100000
set_option maxHeartbeats 4000000
/-! Mr: a mirror layer over HandS. A construct of Python is given a plain Lean function on data (D); what the construct does to the abstract heap is shown once for each construct. -/
namespace Mr
open PySem PySem.Spec PyProof.Rows L2
/-! ### data -/
inductive D where
  | non | bl (b : Bool) | int (i : Int) | str (x : Str)
  | lst (xs : List D) | tup (xs : List D)
  | ref (a : Addr) | ty (n : String)
  | ins (C : Addr) (fs : List (Str × D))
  | dct (kvs : List (Key × D))
mutual
inductive Rep (K : PySem.W.Frag) (G : Hp) : V → D → Prop
  | non : Rep K G .non .non
  | bl (b : Bool) : Rep K G (.bl b) (.bl b)
  | int (i : Int) : Rep K G (.int i) (.int i)
  | str (x : Str) : Rep K G (.str x) (.str x)
  | lst {a : Addr} {vs : List V} {ds : List D} : SqL K G a vs → Reps K G vs ds → Rep K G (.ref a) (.lst ds)
  | tup {a : Addr} {vs : List V} {ds : List D} : SqT K G a vs → Reps K G vs ds → Rep K G (.ref a) (.tup ds)
  | ref (a : Addr) : Rep K G (.ref a) (.ref a)
  | ty (n : String) : Rep K G (.ty n) (.ty n)
  | ins {a C dx : Addr} {fs : List (Str × V)} {ds : List (Str × D)} : G a = some (.ins C dx fs) → RepF K G fs ds → Rep K G (.ref a) (.ins C ds)
  | dct {a : Addr} {kvs : List (Key × V)} {ds : List (Key × D)} : G a = some (.dK kvs) → RepK K G kvs ds → Rep K G (.ref a) (.dct ds)
inductive Reps (K : PySem.W.Frag) (G : Hp) : List V → List D → Prop
  | nil : Reps K G [] []
  | cons {v : V} {d : D} {vs : List V} {ds : List D} : Rep K G v d → Reps K G vs ds → Reps K G (v :: vs) (d :: ds)
inductive RepF (K : PySem.W.Frag) (G : Hp) : List (Str × V) → List (Str × D) → Prop
  | nil : RepF K G [] []
  | cons {f : Str} {v : V} {d : D} {vs : List (Str × V)} {ds : List (Str × D)} : Rep K G v d → RepF K G vs ds → RepF K G ((f, v) :: vs) ((f, d) :: ds)
inductive RepK (K : PySem.W.Frag) (G : Hp) : List (Key × V) → List (Key × D) → Prop
  | nil : RepK K G [] []
  | cons {f : Key} {v : V} {d : D} {vs : List (Key × V)} {ds : List (Key × D)} : Rep K G v d → RepK K G vs ds → RepK K G ((f, v) :: vs) ((f, d) :: ds)
end
theorem sq_t {K : PySem.W.Frag} {H H' : Hp} {a : Addr} {xs : List V} (e : Same H H') (h : SqT K H a xs) : SqT K H' a xs := by
  rcases h with (h | ⟨o, h⟩) | h
  · exact .inl (.inl (e _ _ h))
  · exact .inl (.inr ⟨o, e _ _ h⟩)
  · exact .inr h
section
variable {K : PySem.W.Frag} {G G' : Hp}
mutual
theorem Rep.mono (e : Same G G') : ∀ {v : V} {d : D}, Rep K G v d → Rep K G' v d
  | _, _, .non => .non
  | _, _, .bl b => .bl b
  | _, _, .int i => .int i
  | _, _, .str x => .str x
  | _, _, .lst h r => .lst (e.seq h) (Reps.mono e r)
  | _, _, .tup h r => .tup (sq_t e h) (Reps.mono e r)
  | _, _, .ref a => .ref a
  | _, _, .ty n => .ty n
  | _, _, .ins h r => .ins (e _ _ h) (RepF.mono e r)
  | _, _, .dct h r => .dct (e _ _ h) (RepK.mono e r)
theorem Reps.mono (e : Same G G') : ∀ {v : List V} {d : List D}, Reps K G v d → Reps K G' v d
  | _, _, .nil => .nil
  | _, _, .cons h r => .cons (Rep.mono e h) (Reps.mono e r)
theorem RepF.mono (e : Same G G') : ∀ {v : List (Str × V)} {d : List (Str × D)}, RepF K G v d → RepF K G' v d
  | _, _, .nil => .nil
  | _, _, .cons h r => .cons (Rep.mono e h) (RepF.mono e r)
theorem RepK.mono (e : Same G G') : ∀ {v : List (Key × V)} {d : List (Key × D)}, RepK K G v d → RepK K G' v d
  | _, _, .nil => .nil
  | _, _, .cons h r => .cons (Rep.mono e h) (RepK.mono e r)
end
theorem Reps.length : ∀ {v : List V} {d : List D}, Reps K G v d → v.length = d.length
  | _, _, .nil => rfl
  | _, _, .cons _ r => by rw [List.length_cons, List.length_cons, r.length]
theorem Reps.get : ∀ {vs : List V} {ds : List D} {i : Nat} {v : V}, Reps K G vs ds → vs[i]? = some v → ∃ d, ds[i]? = some d ∧ Rep K G v d
  | _, _, i, v, .nil, h => by simp at h
  | _, _, 0, v, .cons h r, e => by simp at e; subst e; exact ⟨_, rfl, h⟩
  | _, _, i + 1, v, .cons h r, e => by
    obtain ⟨d, h1, h2⟩ := Reps.get (i := i) r (by simpa using e)
    exact ⟨d, by simpa using h1, h2⟩
theorem Reps.get' : ∀ {vs : List V} {ds : List D} {i : Nat} {d : D}, Reps K G vs ds → ds[i]? = some d → ∃ v, vs[i]? = some v ∧ Rep K G v d
  | _, _, i, v, .nil, h => by simp at h
  | _, _, 0, v, .cons h r, e => by simp at e; subst e; exact ⟨_, rfl, h⟩
  | _, _, i + 1, v, .cons h r, e => by
    obtain ⟨d, h1, h2⟩ := Reps.get' (i := i) r (by simpa using e)
    exact ⟨d, by simpa using h1, h2⟩
theorem Reps.append : ∀ {vs ws : List V} {ds es : List D}, Reps K G vs ds → Reps K G ws es → Reps K G (vs ++ ws) (ds ++ es)
  | _, _, _, _, .nil, r => r
  | _, _, _, _, .cons h r, q => .cons h (r.append q)
theorem Reps.take : ∀ {vs : List V} {ds : List D} (n : Nat), Reps K G vs ds → Reps K G (vs.take n) (ds.take n)
  | _, _, 0, _ => .nil
  | _, _, _ + 1, .nil => .nil
  | _, _, n + 1, .cons h r => .cons h (Reps.take n r)
theorem Reps.drop : ∀ {vs : List V} {ds : List D} (n : Nat), Reps K G vs ds → Reps K G (vs.drop n) (ds.drop n)
  | _, _, 0, r => r
  | _, _, _ + 1, .nil => .nil
  | _, _, n + 1, .cons h r => Reps.drop n r
theorem Reps.set {v : V} {d : D} (h : Rep K G v d) : ∀ {vs : List V} {ds : List D} (n : Nat), Reps K G vs ds → Reps K G (vs.set n v) (ds.set n d)
  | _, _, _, .nil => .nil
  | _, _, 0, .cons _ r => .cons h r
  | _, _, n + 1, .cons q r => .cons q (Reps.set h n r)
theorem Reps.eraseIdx : ∀ {vs : List V} {ds : List D} (n : Nat), Reps K G vs ds → Reps K G (vs.eraseIdx n) (ds.eraseIdx n)
  | _, _, _, .nil => .nil
  | _, _, 0, .cons _ r => r
  | _, _, n + 1, .cons q r => .cons q (Reps.eraseIdx n r)
theorem Reps.reverse {vs : List V} {ds : List D} (r : Reps K G vs ds) : Reps K G vs.reverse ds.reverse := by
  induction vs generalizing ds with
  | nil => cases r; exact .nil
  | cons v vs ih =>
    cases r with
    | cons h r =>
      rw [List.reverse_cons, List.reverse_cons]
      exact (ih r).append (.cons h .nil)
theorem Reps.ints : ∀ (ns : List Int), Reps K G (ns.map V.int) (ns.map D.int)
  | [] => .nil
  | n :: ns => .cons (.int n) (Reps.ints ns)
theorem Reps.of_ints : ∀ {vs : List V} {ns : List Int}, Reps K G vs (ns.map D.int) → vs = ns.map V.int
  | _, [], r => by cases r; rfl
  | _, n :: ns, r => by
    rw [List.map_cons] at r
    cases r with
    | cons h r =>
      cases h
      rw [Reps.of_ints r]
      rfl
end
/-! ### the world: what is changed in place through a whole law (the source of draws) -/
structure Wo where
  S : Type
  W : Addr → Prop
  ok : S → Hp → Prop
  /-- the exception in hand in an except suite: itself, its dict, its class -/
  ec : Addr → Addr → Addr → Prop
  loc : ∀ s H H', (∀ a, W a → H' a = H a) → ok s H → ok s H'
  dom : ∀ s H a, ok s H → W a → H a ≠ none
/-- from the heaps G (what never changes any more) in H to G' in H' -/
structure Tr (W : Addr → Prop) (G H G' H' : Hp) : Prop where
  gg : Same G G'
  gh : Same G' H'
  gr : ∀ b o, G' b = some o → G b = some o ∨ H b = none
  kp : ∀ b o, ¬ W b → H b = some o → H' b = some o
  dm : ∀ b, H' b = none → H b = none
abbrev Tr0 := Tr fun _ => False
theorem Tr.refl {W : Addr → Prop} {G H : Hp} (h : Same G H) : Tr W G H G H := ⟨Same.refl _, h, fun _ _ e => .inl e, fun _ _ _ e => e, fun _ e => e⟩
theorem Tr.trans {W : Addr → Prop} {G H G1 H1 G2 H2 : Hp} (a : Tr W G H G1 H1) (b : Tr W G1 H1 G2 H2) : Tr W G H G2 H2 :=
  ⟨a.gg.trans b.gg, b.gh, fun c o e => (b.gr c o e).elim (fun z => a.gr c o z) (fun z => .inr (a.dm c z)), fun c o n e => b.kp c o n (a.kp c o n e), fun c e => a.dm c (b.dm c e)⟩
theorem Tr0.up {W : Addr → Prop} {G H G1 H1 : Hp} (a : Tr0 G H G1 H1) : Tr W G H G1 H1 := ⟨a.gg, a.gh, a.gr, fun c o _ e => a.kp c o (fun z => z) e, a.dm⟩
/-- a new object that never changes -/
theorem Tr0.new {G H : Hp} {p : Addr} {o : HO} (h : Same G H) (n : H p = none) : Tr0 G H (upd G p o) (upd H p o) := by
  have ng : G p = none := h.free n
  refine ⟨fun b u e => by rw [upd_ne (ne_of_none e ng)]; exact e, fun b u e => ?_, fun b u e => ?_, fun b u _ e => by rw [upd_ne (ne_of_none e n)]; exact e, fun b e => ?_⟩
  · by_cases hb : b = p
    · subst hb; rw [upd_same] at e ⊢; exact e
    · rw [upd_ne hb] at e ⊢; exact h b u e
  · by_cases hb : b = p
    · subst hb; exact .inr n
    · rw [upd_ne hb] at e; exact .inl e
  · by_cases hb : b = p
    · subst hb; exact n
    · rw [upd_ne hb] at e; exact e
/-- a new object that is tracked, but not told -/
theorem Tr0.hid {G H : Hp} {p : Addr} {o : HO} (h : Same G H) (n : H p = none) : Tr0 G H G (upd H p o) := by
  refine ⟨Same.refl _, fun b u e => by rw [upd_ne (ne_of_none (h b u e) n)]; exact h b u e, fun b u e => .inl e, fun b u _ e => by rw [upd_ne (ne_of_none e n)]; exact e, fun b e => ?_⟩
  by_cases hb : b = p
  · subst hb; exact n
  · rw [upd_ne hb] at e; exact e
/-! ### slots -/
inductive Sl where
  | no | sh (d : D) | own (xs : List D) | ownD (kvs : List (Key × D)) | ownI (C : Addr) (fs : List (Str × D)) | exc (c : Addr) (fs : List (Str × D))
def SlOk (K : PySem.W.Frag) (O : Wo) (H0 G H : Hp) : Option V → Sl → Prop
  | _, .no => True
  | o, .sh d => ∃ v, o = some v ∧ Rep K G v d
  | o, .own xs => ∃ p vs, o = some (.ref p) ∧ H p = some (.lst vs) ∧ Reps K G vs xs ∧ G p = none ∧ ¬ O.W p ∧ H0 p = none
  | o, .ownD xs => ∃ p vs, o = some (.ref p) ∧ H p = some (.dK vs) ∧ RepK K G vs xs ∧ G p = none ∧ ¬ O.W p ∧ H0 p = none
  | o, .ownI C xs => ∃ p dx vs, o = some (.ref p) ∧ H p = some (.ins C dx vs) ∧ RepF K G vs xs ∧ G p = none ∧ ¬ O.W p ∧ H0 p = none
  | o, .exc c fs => ∃ a dd xs, o = some (.ref a) ∧ O.ec a dd c ∧ H dd = some (.xd xs) ∧ RepF K G xs fs ∧ ¬ O.W dd
def isOwn : Sl → Bool
  | .own _ => true
  | .ownD _ => true
  | .ownI _ _ => true
  | _ => false
abbrev Ev := List Sl
/-- what holds of the slots σ and the heap H where the mirror has ρ and s -/
structure Fm (K : PySem.W.Frag) (O : Wo) (H0 : Hp) (σ : L2.St) (ρ : Ev) (G H : Hp) (s : O.S) : Prop where
  gh : Same G H
  wg : ∀ a, O.W a → G a = none
  ok : O.ok s H
  len : σ.length = ρ.length
  sl : ∀ (i : Nat) (o : Option V) (x : Sl), σ[i]? = some o → ρ[i]? = some x → SlOk K O H0 G H o x
  ds : ∀ (i j : Nat) (p : Addr) (x y : Sl), i ≠ j → ρ[i]? = some x → ρ[j]? = some y → isOwn x = true → isOwn y = true → σ[i]? = some (some (.ref p)) → σ[j]? ≠ some (some (.ref p))
section
variable {K : PySem.W.Frag} {O : Wo} {H0 G H G' H' : Hp} {σ : L2.St} {ρ : Ev} {s s' : O.S}
theorem SlOk.tr {o : Option V} {x : Sl} (t : Tr O.W G H G' H') (h : SlOk K O H0 G H o x) : SlOk K O H0 G' H' o x := by
  have ng : ∀ {p : Addr} {u : HO}, H p = some u → G p = none → G' p = none := fun {p u} a b => by
    cases e : G' p with
    | none => rfl
    | some z => rcases t.gr p z e with q | q <;> simp_all
  cases x with
  | no => trivial
  | sh d => obtain ⟨v, a, b⟩ := h; exact ⟨v, a, b.mono t.gg⟩
  | own xs => obtain ⟨p, vs, a, b, c, d, e, f⟩ := h; exact ⟨p, vs, a, t.kp _ _ e b, c.mono t.gg, ng b d, e, f⟩
  | ownD xs => obtain ⟨p, vs, a, b, c, d, e, f⟩ := h; exact ⟨p, vs, a, t.kp _ _ e b, c.mono t.gg, ng b d, e, f⟩
  | ownI C xs => obtain ⟨p, dx, vs, a, b, c, d, e, f⟩ := h; exact ⟨p, dx, vs, a, t.kp _ _ e b, c.mono t.gg, ng b d, e, f⟩
  | exc c fs => obtain ⟨a, dd, xs, e, q, b, c, d⟩ := h; exact ⟨a, dd, xs, e, q, t.kp _ _ d b, c.mono t.gg, d⟩
theorem Fm.tr (f : Fm K O H0 σ ρ G H s) (t : Tr O.W G H G' H') (k : O.ok s' H') : Fm K O H0 σ ρ G' H' s' :=
  ⟨t.gh, fun a w => by
    cases e : G' a with
    | none => rfl
    | some z =>
      rcases t.gr a z e with q | q
      · rw [f.wg a w] at q; cases q
      · exact absurd q (O.dom s H a f.ok w), k, f.len, fun i o x a b => (f.sl i o x a b).tr t, f.ds⟩
theorem Fm.keepW (f : Fm K O H0 σ ρ G H s) (t : Tr0 G H G' H') : O.ok s H' := O.loc s H H' (fun a w => by
    cases e : H a with
    | none => exact absurd e (O.dom s H a f.ok w)
    | some u => exact t.kp a u (fun z => z) e) f.ok
theorem Fm.tr0 (f : Fm K O H0 σ ρ G H s) (t : Tr0 G H G' H') : Fm K O H0 σ ρ G' H' s := f.tr t.up (f.keepW t)
theorem Fm.get (f : Fm K O H0 σ ρ G H s) {i : Nat} {d : D} (h : ρ[i]? = some (.sh d)) : ∃ v, σ[i]? = some (some v) ∧ Rep K G v d := by
  have hi : i < σ.length := by rw [f.len]; exact (List.getElem?_eq_some_iff.mp h).1
  obtain ⟨v, e, r⟩ := f.sl i σ[i] _ (List.getElem?_eq_getElem hi) h
  exact ⟨v, by rw [List.getElem?_eq_getElem hi, e], r⟩
theorem Fm.at (f : Fm K O H0 σ ρ G H s) {i : Nat} {x : Sl} (h : ρ[i]? = some x) : ∃ o, σ[i]? = some o ∧ SlOk K O H0 G H o x := by
  have hi : i < σ.length := by rw [f.len]; exact (List.getElem?_eq_some_iff.mp h).1
  exact ⟨σ[i], List.getElem?_eq_getElem hi, f.sl i σ[i] _ (List.getElem?_eq_getElem hi) h⟩
/-- a slot is set to a thing that never changes -/
theorem Fm.set (f : Fm K O H0 σ ρ G H s) {i : Nat} {v : V} {d : D} (r : Rep K G v d) : Fm K O H0 (σ.set i (some v)) (ρ.set i (.sh d)) G H s := by
  refine ⟨f.gh, f.wg, f.ok, by simpa using f.len, fun j o x a b => ?_, fun j k p x y hjk a b c e g => ?_⟩
  · by_cases hj : i = j
    · subst hj
      have h1 := (List.getElem?_eq_some_iff.mp a).1
      have h2 := (List.getElem?_eq_some_iff.mp b).1
      rw [List.length_set] at h1 h2
      rw [List.getElem?_set_self h1] at a
      rw [List.getElem?_set_self h2] at b
      cases a; cases b
      exact ⟨v, rfl, r⟩
    · rw [List.getElem?_set_ne hj] at a b
      exact f.sl j o x a b
  · by_cases hj : i = j
    · subst hj
      have h2 := (List.getElem?_eq_some_iff.mp a).1
      rw [List.length_set] at h2
      rw [List.getElem?_set_self h2] at a
      cases a
      cases c
    · by_cases hk : i = k
      · subst hk
        have h2 := (List.getElem?_eq_some_iff.mp b).1
        rw [List.length_set] at h2
        rw [List.getElem?_set_self h2] at b
        cases b
        cases e
      · rw [List.getElem?_set_ne hj] at a g
        rw [List.getElem?_set_ne hk] at b
        rw [List.getElem?_set_ne hk]
        exact f.ds j k p x y hjk a b c e g
end
end Mr

namespace Mr
open PySem PySem.Spec PyProof.Rows L2
/-! ### what a mirror gives -/
inductive R (S α : Type) where
  | ok (a : α) (s : S) | err (c : Addr) (fs : List (Str × D)) (s : S) | bad
def R.bind {S α β : Type} (x : R S α) (f : α → S → R S β) : R S β := match x with
  | .ok a s => f a s
  | .err c fs s => .err c fs s
  | .bad => .bad
def R.lift {S α : Type} (o : Option α) (s : S) : R S α := match o with
  | some a => .ok a s
  | none => .bad
section
variable {S α β : Type}
@[simp] theorem bind_ok (a : α) (s : S) (f : α → S → R S β) : (R.ok a s).bind f = f a s := rfl
@[simp] theorem bind_err (c : Addr) (fs : List (Str × D)) (s : S) (f : α → S → R S β) : (R.err c fs s : R S α).bind f = .err c fs s := rfl
@[simp] theorem bind_bad (f : α → S → R S β) : (R.bad : R S α).bind f = .bad := rfl
@[simp] theorem lift_some (a : α) (s : S) : R.lift (some a) s = .ok a s := rfl
@[simp] theorem lift_none (s : S) : (R.lift none s : R S α) = .bad := rfl
end
/-- what is wanted behind, of what the mirror gives -/
def Pst (K : PySem.W.Frag) (O : Wo) (Wx : WX) (σ : L2.St) (G H : Hp) {α β : Type} (rel : Hp → β → α → Prop) (r : R O.S α) (Q : β → Hp → Prop) : Prop :=
  match r with
  | .ok d s' => ∀ v G' H', Tr O.W G H G' H' → O.ok s' H' → rel G' v d → Q v H'
  | .err c fs s' => ∀ dd xs G' H', Tr O.W G H G' H' → O.ok s' H' → H' dd = some (.xd xs) → ¬ O.W dd → RepF K G' xs fs → Wx (.ref c) (some dd) σ H'
  | .bad => False
section
variable {K : PySem.W.Frag} {O : Wo} {Wx : WX} {σ : L2.St} {G H G1 H1 : Hp}
theorem Pst.shift {α β : Type} {rel : Hp → β → α → Prop} {r : R O.S α} {Q : β → Hp → Prop} (t : Tr O.W G H G1 H1) (h : Pst K O Wx σ G H rel r Q) : Pst K O Wx σ G1 H1 rel r Q := by
  cases r with
  | ok d s' => exact fun v G' H' t' k q => h v G' H' (t.trans t') k q
  | err c fs s' => exact fun dd xs G' H' t' k e n q => h dd xs G' H' (t.trans t') k e n q
  | bad => exact h
theorem pst_bind {α β α' β' : Type} {rel : Hp → β → α → Prop} {rel' : Hp → β' → α' → Prop} {r : R O.S α} {f : α → O.S → R O.S α'} {Q : β' → Hp → Prop} {Q1 : β → Hp → Prop} (h : Pst K O Wx σ G H rel' (r.bind f) Q)
    (k : ∀ a s1, r = .ok a s1 → ∀ v G1 H1, Tr O.W G H G1 H1 → O.ok s1 H1 → rel G1 v a → Pst K O Wx σ G1 H1 rel' (f a s1) Q → Q1 v H1) : Pst K O Wx σ G H rel r Q1 := by
  cases r with
  | ok d s' => exact fun v G' H' t' ko q => k d s' rfl v G' H' t' ko q (Pst.shift t' h)
  | err c fs s' => exact h
  | bad => exact h
end
abbrev ME (O : Wo) := Ev → O.S → R O.S D
abbrev MA (O : Wo) := Ev → O.S → R O.S (List D)
abbrev MT (O : Wo) := Ev → O.S → R O.S Bool
def SndE (K : PySem.W.Frag) (O : Wo) (Wx : WX) (t : TE) (m : ME O) : Prop := ∀ σ ρ H0 G H s Q, Fm K O H0 σ ρ G H s → Pst K O Wx σ G H (Rep K) (m ρ s) Q → t σ H Q
def SndA (K : PySem.W.Frag) (O : Wo) (Wx : WX) (t : TA) (m : MA O) : Prop := ∀ σ ρ H0 G H s Q, Fm K O H0 σ ρ G H s → Pst K O Wx σ G H (Reps K) (m ρ s) Q → t σ H Q
def SndT (K : PySem.W.Frag) (O : Wo) (Wx : WX) (t : TT) (m : MT O) : Prop := ∀ σ ρ H0 G H s Q, Fm K O H0 σ ρ G H s → Pst K O Wx σ G H (fun _ b c => b = c) (m ρ s) Q → t σ H Q
/-- the judgements: a piece of the text, its reading, its mirror -/
structure DE (K : PySem.W.Frag) (O : Wo) (Wx : WX) (X : Cx) (e : Expr) (t : TE) (m : ME O) : Prop where
  hK : X.K = K
  tk : Takes X Wx
  pe : PE X e t
  sn : SndE K O Wx t m
structure DA (K : PySem.W.Frag) (O : Wo) (Wx : WX) (X : Cx) (e : List Expr) (t : TA) (m : MA O) : Prop where
  hK : X.K = K
  tk : Takes X Wx
  pe : PA X e t
  sn : SndA K O Wx t m
structure DT (K : PySem.W.Frag) (O : Wo) (Wx : WX) (X : Cx) (e : Expr) (t : TT) (m : MT O) : Prop where
  hK : X.K = K
  tk : Takes X Wx
  pe : PT X e t
  sn : SndT K O Wx t m
/-- the context's facts -/
structure Cn (K : PySem.W.Frag) (Wx : WX) (X : Cx) : Prop where
  hK : X.K = K
  tk : Takes X Wx
section
variable {K : PySem.W.Frag} {O : Wo} {Wx : WX} {X : Cx}
/-! ### names, constants -/
def mVar (O : Wo) (i : Nat) : ME O := fun ρ s => match ρ[i]? with
  | some (.sh d) => .ok d s
  | _ => .bad
def mC (O : Wo) (d : D) : ME O := fun _ s => .ok d s
theorem snd_var {i : Nat} : SndE K O Wx (tVar i) (mVar O i) := by
  intro σ ρ H0 G H s Q F h
  unfold mVar at h
  split at h
  · rename_i d e
    obtain ⟨v, ev, r⟩ := F.get e
    exact ⟨v, ev, h v G H (.refl F.gh) F.ok r⟩
  · exact h.elim
theorem snd_c {v : V} {d : D} (r : ∀ G, Rep K G v d) : SndE K O Wx (tC v) (mC O d) := fun σ ρ H0 G H s Q F h => h v G H (.refl F.gh) F.ok (r G)
theorem de_var (i : Nat) {x : Str} {pos : Pos} (c : Cn K Wx X) (hN : X.N[i]? = some x := by rfl) (hv : Vis X.env.scope x := by first | exact Or.inl rfl | exact Or.inr (Or.inl rfl) | exact Or.inr (Or.inr rfl)) (hd : (x == ("__debug__" : Str)) = false := by decide)
    (hcd : (x == ("__classdict__" : Str)) = false := by decide) : DE K O Wx X (.Name x pos) (tVar i) (mVar O i) := ⟨c.hK, c.tk, pe_var hN hv hd hcd, snd_var⟩
theorem de_int {i : Int} {j : Nat} {pos : Pos} (c : Cn K Wx X) : DE K O Wx X (.Constant (.int i) j pos) (tC (.int i)) (mC O (.int i)) := ⟨c.hK, c.tk, pe_int, snd_c fun _ => .int i⟩
theorem de_bl {i : Bool} {j : Nat} {pos : Pos} (c : Cn K Wx X) : DE K O Wx X (.Constant (.bool i) j pos) (tC (.bl i)) (mC O (.bl i)) := ⟨c.hK, c.tk, pe_bl, snd_c fun _ => .bl i⟩
theorem de_str {i : Str} {j : Nat} {pos : Pos} (c : Cn K Wx X) : DE K O Wx X (.Constant (.str i) j pos) (tC (.str i)) (mC O (.str i)) := ⟨c.hK, c.tk, pe_str, snd_c fun _ => .str i⟩
theorem de_non {j : Nat} {pos : Pos} (c : Cn K Wx X) : DE K O Wx X (.Constant .none j pos) (tC .non) (mC O .non) := ⟨c.hK, c.tk, pe_non, snd_c fun _ => .non⟩
/-- a module's name -/
theorem de_glob {x : Str} {u : Value} {v : V} {d : D} {pos : Pos} (c : Cn K Wx X) (hm : X.mg x = some u) (r : RelV v u) (q : ∀ G, Rep K G v d) (hg : Gl X x := by rfl) (hdb : (x == ("__debug__" : Str)) = false := by decide) :
    DE K O Wx X (.Name x pos) (tC v) (mC O d) := ⟨c.hK, c.tk, pe_glob hg hm r hdb, snd_c q⟩
theorem de_bltn {x : Str} {u : Value} {v : V} {d : D} {pos : Pos} (c : Cn K Wx X) (hm : X.mg x = none) (hv : bootBuiltins x = some u) (r : RelV v u) (q : ∀ G, Rep K G v d) (hg : Gl X x := by rfl) (hn : x ≠ "__name__" := by decide) (hdb : (x == ("__debug__" : Str)) = false := by decide) :
    DE K O Wx X (.Name x pos) (tC v) (mC O d) := ⟨c.hK, c.tk, pe_bltn hg hm hv r hn hdb, snd_c q⟩
/-! ### operations on values -/
/-- a two-place operation on values does what f says on data -/
def VOp (K : PySem.W.Frag) (r : R2) (f : D → D → Option D) : Prop := ∀ (G H : Hp) (x y : V) (dx dy d : D) (Q : VK), Same G H → Rep K G x dx → Rep K G y dy → f dx dy = some d → (∀ v G' H', Tr0 G H G' H' → Rep K G' v d → Q v H') → r x y H Q
def VUn (K : PySem.W.Frag) (r : V → Hp → VK → Prop) (f : D → Option D) : Prop := ∀ (G H : Hp) (x : V) (dx d : D) (Q : VK), Same G H → Rep K G x dx → f dx = some d → (∀ v G' H', Tr0 G H G' H' → Rep K G' v d → Q v H') → r x H Q
def VCl (K : PySem.W.Frag) (r : List V → Hp → VK → Prop) (f : List D → Option D) : Prop := ∀ (G H : Hp) (x : List V) (dx : List D) (d : D) (Q : VK), Same G H → Reps K G x dx → f dx = some d → (∀ v G' H', Tr0 G H G' H' → Rep K G' v d → Q v H') → r x H Q
def mBin (O : Wo) (f : D → D → Option D) (a b : ME O) : ME O := fun ρ s => (a ρ s).bind fun x s1 => (b ρ s1).bind fun y s2 => R.lift (f x y) s2
def mUn (O : Wo) (f : D → Option D) (a : ME O) : ME O := fun ρ s => (a ρ s).bind fun x s1 => R.lift (f x) s1
def mCl (O : Wo) (f : List D → Option D) (a : MA O) : ME O := fun ρ s => (a ρ s).bind fun x s1 => R.lift (f x) s1
theorem pst_lift {σ : L2.St} {ρ : Ev} {H0 G H : Hp} {s : O.S} {o : Option D} {Q : VK} (F : Fm K O H0 σ ρ G H s) (h : Pst K O Wx σ G H (Rep K) (R.lift o s) Q) : ∃ d, o = some d ∧ ∀ v G' H', Tr0 G H G' H' → Rep K G' v d → Q v H' := by
  cases o with
  | none => exact h.elim
  | some d => exact ⟨d, rfl, fun v G' H' t r => h v G' H' t.up (F.keepW t) r⟩
theorem snd_op {r : R2} {f : D → D → Option D} {ta tb : TE} {ma mb : ME O} (hv : VOp K r f) (ha : SndE K O Wx ta ma) (hb : SndE K O Wx tb mb) : SndE K O Wx (tOp r ta tb) (mBin O f ma mb) := by
  intro σ ρ H0 G H s Q F h
  refine ha σ ρ H0 G H s _ F (pst_bind h fun dx s1 _ x G1 H1 t1 k1 r1 h1 => ?_)
  have F1 := F.tr t1 k1
  refine hb σ ρ H0 G1 H1 s1 _ F1 (pst_bind h1 fun dy s2 _ y G2 H2 t2 k2 r2 h2 => ?_)
  have F2 := F1.tr t2 k2
  obtain ⟨d, e, q⟩ := pst_lift F2 h2
  exact hv G2 H2 x y dx dy d Q F2.gh (r1.mono t2.gg) r2 e q
theorem snd_un {r : V → Hp → VK → Prop} {f : D → Option D} {ta : TE} {ma : ME O} (hv : VUn K r f) (ha : SndE K O Wx ta ma) : SndE K O Wx (tUn r ta) (mUn O f ma) := by
  intro σ ρ H0 G H s Q F h
  refine ha σ ρ H0 G H s _ F (pst_bind h fun dx s1 _ x G1 H1 t1 k1 r1 h1 => ?_)
  have F1 := F.tr t1 k1
  obtain ⟨d, e, q⟩ := pst_lift F1 h1
  exact hv G1 H1 x dx d Q F1.gh r1 e q
theorem snd_cl {r : List V → Hp → VK → Prop} {f : List D → Option D} {ta : TA} {ma : MA O} (hv : VCl K r f) (ha : SndA K O Wx ta ma) : SndE K O Wx (tCB r ta) (mCl O f ma) := by
  intro σ ρ H0 G H s Q F h
  refine ha σ ρ H0 G H s _ F (pst_bind h fun dx s1 _ x G1 H1 t1 k1 r1 h1 => ?_)
  have F1 := F.tr t1 k1
  obtain ⟨d, e, q⟩ := pst_lift F1 h1
  exact hv G1 H1 x dx d Q F1.gh r1 e q
theorem de_bin {op : Operator} {r : R2} {f : D → D → Option D} {a b : Expr} {ta tb : TE} {ma mb : ME O} {pos : Pos} (ho : OpR X (binaryOp op) r) (hv : VOp K r f) (ha : DE K O Wx X a ta ma) (hb : DE K O Wx X b tb mb) :
    DE K O Wx X (.BinOp a op b pos) (tOp r ta tb) (mBin O f ma mb) := ⟨ha.hK, ha.tk, pe_op ho ha.pe hb.pe, snd_op hv ha.sn hb.sn⟩
theorem de_unop {op : UnaryOp} {r : V → Hp → VK → Prop} {f : D → Option D} {a : Expr} {ta : TE} {ma : ME O} {pos : Pos} (ho : UnR X (unaryOp op) r) (hv : VUn K r f) (ha : DE K O Wx X a ta ma) :
    DE K O Wx X (.UnaryOp op a pos) (tUn r ta) (mUn O f ma) := ⟨ha.hK, ha.tk, pe_un ho ha.pe, snd_un hv ha.sn⟩
theorem de_cmp {op : CmpOp} {r : R2} {f : D → D → Option D} {a b : Expr} {ta tb : TE} {ma mb : ME O} {pos : Pos} (ho : OpR X (compareOp op) r) (hv : VOp K r f) (ha : DE K O Wx X a ta ma) (hb : DE K O Wx X b tb mb) (hm : behindInMarks op b = false) :
    DE K O Wx X (.Compare a [op] [b] pos) (tOp r ta tb) (mBin O f ma mb) := ⟨ha.hK, ha.tk, pe_cmpR ho ha.pe hb.pe hm, snd_op hv ha.sn hb.sn⟩
/-! ### tests -/
def dBool : D → Option Bool
  | .bl b => some b
  | _ => none
def mTest (O : Wo) (m : ME O) : MT O := fun ρ s => (m ρ s).bind fun x s1 => R.lift (dBool x) s1
theorem snd_test {t : TE} {m : ME O} (h : SndE K O Wx t m) : SndT K O Wx (tTest t) (mTest O m) := by
  intro σ ρ H0 G H s Q F hq
  refine h σ ρ H0 G H s _ F (pst_bind hq fun dx s1 _ x G1 H1 t1 k1 r1 h1 => ?_)
  cases dx with
  | bl b =>
    cases r1
    exact ⟨b, rfl, h1 b G1 H1 (.refl t1.gh) k1 rfl⟩
  | _ => exact (show False from h1).elim
theorem dt_cmp {op : CmpOp} {r : R2} {f : D → D → Option D} {a b : Expr} {ta tb : TE} {ma mb : ME O} {pos : Pos} (ho : OpR X (compareOp op) r) (hv : VOp K r f) (ha : DE K O Wx X a ta ma) (hb : DE K O Wx X b tb mb) (hm : behindInMarks op b = false) :
    DT K O Wx X (.Compare a [op] [b] pos) (tTest (tOp r ta tb)) (mTest O (mBin O f ma mb)) := ⟨ha.hK, ha.tk, pt_cmpR ho ha.pe hb.pe hm, snd_test (snd_op hv ha.sn hb.sn)⟩
/-- a value's truth -/
def dTruth : D → Option Bool
  | .non => some false
  | .bl b => some b
  | .int i => some (i != 0)
  | .str x => if x.length ≤ 100000 then some ((x.length : Int) != 0) else none
  | .lst xs => some (!xs.isEmpty)
  | .tup xs => some (!xs.isEmpty)
  | _ => none
theorem sz5 {n : Nat} (h : n ≤ 100000) : n ≤ sizeLine := Nat.le_trans h (by decide)
theorem sz5l {n : Nat} (h : n < 100000) : n < sizeLine := Nat.lt_of_lt_of_le h (by decide)
theorem Reps.isEmpty {G : Hp} {vs : List V} {ds : List D} (r : Reps K G vs ds) : vs.isEmpty = ds.isEmpty := by
  cases r <;> rfl
theorem truth_ok {G H : Hp} {x : V} {dx : D} {b : Bool} (g : Same G H) (r : Rep K G x dx) (h : dTruth dx = some b) : TruV K x H b := by
  cases r with
  | non => cases h; rfl
  | bl c => cases h; rfl
  | int i => cases h; rfl
  | str x =>
    unfold dTruth at h
    dsimp only at h
    split at h
    · cases h
      rename_i hz
      exact ⟨sz5 hz, rfl⟩
    · cases h
  | lst hs hr => cases h; exact .inl ⟨_, g.seq hs, by rw [hr.isEmpty]⟩
  | tup hs hr => cases h; exact .inr (.inl ⟨_, sq_t g hs, by rw [hr.isEmpty]⟩)
  | ref a => cases h
  | ty n => cases h
  | ins _ _ => cases h
  | dct _ _ => cases h
def mTruth (O : Wo) (m : ME O) : MT O := fun ρ s => (m ρ s).bind fun x s1 => R.lift (dTruth x) s1
theorem dt_truth {a : Expr} {ta : TE} {ma : ME O} (ha : DE K O Wx X a ta ma) (he : ∀ whole, isTrue a X.env whole = (do let v ← whole; standAt a.pos; holding [v] (truthy v)) := by intro _; rfl) :
    DT K O Wx X a (fun σ H Q => ta σ H fun x H1 => ∃ k, TruV K x H1 k ∧ Q k H1) (mTruth O ma) := by
  refine ⟨ha.hK, ha.tk, ?_, ?_⟩
  · have := ha.hK
    subst this
    exact pt_truth ha.pe he
  · intro σ ρ H0 G H s Q F hq
    refine ha.sn σ ρ H0 G H s _ F (pst_bind hq fun dx s1 _ x G1 H1 t1 k1 r1 h1 => ?_)
    cases e : dTruth dx with
    | none => rw [e] at h1; exact (show False from h1).elim
    | some b =>
      rw [e] at h1
      exact ⟨b, truth_ok t1.gh r1 e, h1 b G1 H1 (.refl t1.gh) k1 rfl⟩
def mAnd (O : Wo) (a b : MT O) : MT O := fun ρ s => (a ρ s).bind fun x s1 => if x = true then b ρ s1 else .ok false s1
def mOr (O : Wo) (a b : MT O) : MT O := fun ρ s => (a ρ s).bind fun x s1 => if x = true then .ok true s1 else b ρ s1
def mNot (O : Wo) (a : MT O) : MT O := fun ρ s => (a ρ s).bind fun x s1 => .ok (!x) s1
structure DW (K : PySem.W.Frag) (O : Wo) (Wx : WX) (X : Cx) (e : Expr) (t : TT) (m : MT O) : Prop where
  hK : X.K = K
  tk : Takes X Wx
  pe : PW X e t
  sn : SndT K O Wx t m
theorem DW.dt {e : Expr} {t : TT} {m : MT O} (h : DW K O Wx X e t m) : DT K O Wx X e t m := ⟨h.hK, h.tk, h.pe.pt, h.sn⟩
section
variable {a b : Expr} {rest : List Expr} {ta tb : TT} {ma mb : MT O} {pos : Pos}
theorem dw_and1 (ha : DT K O Wx X a ta ma) : DW K O Wx X (.BoolOp .And [a] pos) ta ma := ⟨ha.hK, ha.tk, pw_and1 ha.pe, ha.sn⟩
theorem dw_or1 (ha : DT K O Wx X a ta ma) : DW K O Wx X (.BoolOp .Or [a] pos) ta ma := ⟨ha.hK, ha.tk, pw_or1 ha.pe, ha.sn⟩
theorem dw_and (ha : DT K O Wx X a ta ma) (hb : DW K O Wx X (.BoolOp .And (b :: rest) pos) tb mb) : DW K O Wx X (.BoolOp .And (a :: b :: rest) pos) (tAnd ta tb) (mAnd O ma mb) := by
  refine ⟨ha.hK, ha.tk, pw_and ha.pe hb.pe, fun σ ρ H0 G H s Q F h => ?_⟩
  refine ha.sn σ ρ H0 G H s _ F (pst_bind h fun c s1 _ x G1 H1 t1 k1 r1 h1 => ?_)
  subst r1
  cases x with
  | true => exact hb.sn σ ρ H0 G1 H1 s1 _ (F.tr t1 k1) h1
  | false => exact h1 false G1 H1 (.refl t1.gh) k1 rfl
theorem dw_or (ha : DT K O Wx X a ta ma) (hb : DW K O Wx X (.BoolOp .Or (b :: rest) pos) tb mb) : DW K O Wx X (.BoolOp .Or (a :: b :: rest) pos) (tOr ta tb) (mOr O ma mb) := by
  refine ⟨ha.hK, ha.tk, pw_or ha.pe hb.pe, fun σ ρ H0 G H s Q F h => ?_⟩
  refine ha.sn σ ρ H0 G H s _ F (pst_bind h fun c s1 _ x G1 H1 t1 k1 r1 h1 => ?_)
  subst r1
  cases x with
  | true => exact h1 true G1 H1 (.refl t1.gh) k1 rfl
  | false => exact hb.sn σ ρ H0 G1 H1 s1 _ (F.tr t1 k1) h1
theorem dt_not (ha : DT K O Wx X a ta ma) : DT K O Wx X (.UnaryOp .Not a pos) (tNot ta) (mNot O ma) := by
  refine ⟨ha.hK, ha.tk, pt_not ha.pe, fun σ ρ H0 G H s Q F h => ?_⟩
  refine ha.sn σ ρ H0 G H s _ F (pst_bind h fun c s1 _ x G1 H1 t1 k1 r1 h1 => ?_)
  subst r1
  exact h1 _ G1 H1 (.refl t1.gh) k1 rfl
end
/-! and, or, not as values of bools -/
section
variable {a b : Expr} {rest : List Expr} {ta tb : TE} {ma mb : ME O} {pos : Pos}
def mAndV (O : Wo) (a b : ME O) : ME O := fun ρ s => (a ρ s).bind fun x s1 => match x with
  | .bl true => b ρ s1
  | .bl false => .ok (.bl false) s1
  | _ => .bad
def mOrV (O : Wo) (a b : ME O) : ME O := fun ρ s => (a ρ s).bind fun x s1 => match x with
  | .bl true => .ok (.bl true) s1
  | .bl false => b ρ s1
  | _ => .bad
def mNotV (O : Wo) (a : ME O) : ME O := fun ρ s => (a ρ s).bind fun x s1 => match x with
  | .bl c => .ok (.bl (!c)) s1
  | _ => .bad
theorem de_one {op : BoolOp} (h : DE K O Wx X a ta ma) : DE K O Wx X (.BoolOp op [a] pos) ta ma := ⟨h.hK, h.tk, pe_one h.pe, h.sn⟩
theorem de_and (ha : DE K O Wx X a ta ma) (hb : DE K O Wx X (.BoolOp .And (b :: rest) pos) tb mb) : DE K O Wx X (.BoolOp .And (a :: b :: rest) pos) (tAndV ta tb) (mAndV O ma mb) := by
  refine ⟨ha.hK, ha.tk, pe_and ha.pe hb.pe, fun σ ρ H0 G H s Q F h => ?_⟩
  refine ha.sn σ ρ H0 G H s _ F (pst_bind h fun c s1 _ x G1 H1 t1 k1 r1 h1 => ?_)
  cases c with
  | bl c =>
    cases r1
    cases c with
    | true => exact ⟨true, rfl, hb.sn σ ρ H0 G1 H1 s1 _ (F.tr t1 k1) h1⟩
    | false => exact ⟨false, rfl, h1 _ G1 H1 (.refl t1.gh) k1 (.bl _)⟩
  | _ => exact (show False from h1).elim
theorem de_or (ha : DE K O Wx X a ta ma) (hb : DE K O Wx X (.BoolOp .Or (b :: rest) pos) tb mb) : DE K O Wx X (.BoolOp .Or (a :: b :: rest) pos) (tOrV ta tb) (mOrV O ma mb) := by
  refine ⟨ha.hK, ha.tk, pe_or ha.pe hb.pe, fun σ ρ H0 G H s Q F h => ?_⟩
  refine ha.sn σ ρ H0 G H s _ F (pst_bind h fun c s1 _ x G1 H1 t1 k1 r1 h1 => ?_)
  cases c with
  | bl c =>
    cases r1
    cases c with
    | true => exact ⟨true, rfl, h1 _ G1 H1 (.refl t1.gh) k1 (.bl _)⟩
    | false => exact ⟨false, rfl, hb.sn σ ρ H0 G1 H1 s1 _ (F.tr t1 k1) h1⟩
  | _ => exact (show False from h1).elim
theorem de_not (ha : DE K O Wx X a ta ma) : DE K O Wx X (.UnaryOp .Not a pos) (tNotV ta) (mNotV O ma) := by
  refine ⟨ha.hK, ha.tk, pe_not ha.pe, fun σ ρ H0 G H s Q F h => ?_⟩
  refine ha.sn σ ρ H0 G H s _ F (pst_bind h fun c s1 _ x G1 H1 t1 k1 r1 h1 => ?_)
  cases c with
  | bl c =>
    cases r1
    exact ⟨c, rfl, h1 _ G1 H1 (.refl t1.gh) k1 (.bl _)⟩
  | _ => exact (show False from h1).elim
def mIf (O : Wo) (c : MT O) (a b : ME O) : ME O := fun ρ s => (c ρ s).bind fun x s1 => if x = true then a ρ s1 else b ρ s1
theorem de_if {c : Expr} {tc : TT} {mc : MT O} (hc : DT K O Wx X c tc mc) (ha : DE K O Wx X a ta ma) (hb : DE K O Wx X b tb mb) : DE K O Wx X (.IfExp c a b pos) (tIf tc ta tb) (mIf O mc ma mb) := by
  refine ⟨ha.hK, ha.tk, pe_ifExp hc.pe ha.pe hb.pe, fun σ ρ H0 G H s Q F h => ?_⟩
  refine hc.sn σ ρ H0 G H s _ F (pst_bind h fun c s1 _ x G1 H1 t1 k1 r1 h1 => ?_)
  subst r1
  cases x with
  | true => exact ha.sn σ ρ H0 G1 H1 s1 _ (F.tr t1 k1) h1
  | false => exact hb.sn σ ρ H0 G1 H1 s1 _ (F.tr t1 k1) h1
end
/-! ### argument lists and displays -/
def mNil (O : Wo) : MA O := fun _ s => .ok [] s
def mCons (O : Wo) (a : ME O) (r : MA O) : MA O := fun ρ s => (a ρ s).bind fun x s1 => (r ρ s1).bind fun xs s2 => .ok (x :: xs) s2
theorem da_nil (c : Cn K Wx X) : DA K O Wx X [] tNil (mNil O) := ⟨c.hK, c.tk, pa_nil, fun σ ρ H0 G H s Q F h => h [] G H (.refl F.gh) F.ok .nil⟩
theorem da_cons {e : Expr} {es : List Expr} {te : TE} {ta : TA} {me : ME O} {ma : MA O} (he : DE K O Wx X e te me) (ha : DA K O Wx X es ta ma) (hs : starEach (e :: es) X.env = (false, eval e X.env) :: starEach es X.env := by rfl) :
    DA K O Wx X (e :: es) (tCons te ta) (mCons O me ma) := by
  refine ⟨he.hK, he.tk, pa_cons he.pe ha.pe hs, fun σ ρ H0 G H s Q F h => ?_⟩
  refine he.sn σ ρ H0 G H s _ F (pst_bind h fun dx s1 _ x G1 H1 t1 k1 r1 h1 => ?_)
  refine ha.sn σ ρ H0 G1 H1 s1 _ (F.tr t1 k1) (pst_bind h1 fun ds s2 _ xs G2 H2 t2 k2 r2 h2 => ?_)
  exact h2 (x :: xs) G2 H2 (.refl t2.gh) k2 (.cons (r1.mono t2.gg) r2)
def dList (xs : List D) : Option D := if xs.length ≤ 100000 then some (.lst xs) else none
def dTup (xs : List D) : Option D := if xs.length ≤ 100000 then some (.tup xs) else none
theorem de_list {es : List Expr} {ta : TA} {ma : MA O} {pos : Pos} (ha : DA K O Wx X es ta ma) : DE K O Wx X (.List es pos) (tLst ta) (mCl O dList ma) := by
  refine ⟨ha.hK, ha.tk, pe_lst ha.pe, fun σ ρ H0 G H s Q F h => ?_⟩
  refine ha.sn σ ρ H0 G H s _ F (pst_bind h fun ds s1 _ xs G1 H1 t1 k1 r1 h1 => ?_)
  obtain ⟨d, e, q⟩ := pst_lift (F.tr t1 k1) h1
  unfold dList at e
  split at e
  · rename_i hz
    cases e
    refine ⟨by rw [r1.length]; exact sz5 hz, fun p np => q _ _ _ (Tr0.new t1.gh np) ?_⟩
    exact .lst (.inl (.inl upd_same)) (r1.mono (Tr0.new (o := .lst xs) t1.gh np).gg)
  · cases e
theorem de_tup {es : List Expr} {ta : TA} {ma : MA O} {x1} {pos : Pos} (ha : DA K O Wx X es ta ma) : DE K O Wx X (.Tuple es x1 pos) (tTup ta) (mCl O dTup ma) := by
  refine ⟨ha.hK, ha.tk, pe_tup ha.pe, fun σ ρ H0 G H s Q F h => ?_⟩
  refine ha.sn σ ρ H0 G H s _ F (pst_bind h fun ds s1 _ xs G1 H1 t1 k1 r1 h1 => ?_)
  obtain ⟨d, e, q⟩ := pst_lift (F.tr t1 k1) h1
  unfold dTup at e
  split at e
  · rename_i hz
    cases e
    refine ⟨by rw [r1.length]; exact sz5 hz, fun p np => q _ _ _ (Tr0.new t1.gh np) ?_⟩
    exact .tup (.inl (.inl upd_same)) (r1.mono (Tr0.new (o := .tup xs) t1.gh np).gg)
  · cases e
/-! ### calls -/
theorem de_callB {id : String} {x : Str} {r : List V → Hp → VK → Prop} {f : List D → Option D} {e : Expr} {es : List Expr} {ta : TA} {ma : MA O} {p pos : Pos} (hc : CallR X (.builtin id) r) (hv : VCl K r f) (hm : X.mg x = none) (hb : bootBuiltins x = some (.builtin id)) (ha : DA K O Wx X (e :: es) ta ma)
    (hg : Gl X x := by rfl) (hn : x ≠ "__name__" := by decide) (hdb : (x == ("__debug__" : Str)) = false := by decide) (he : starEach (e :: es) X.env = (false, eval e X.env) :: starEach es X.env := by rfl) (hpl : (backTo pos (starEach es X.env)).any (·.1) = false := by rfl) :
    DE K O Wx X (.Call (.Name x p) (e :: es) [] pos) (tCB r ta) (mCl O f ma) := ⟨ha.hK, ha.tk, pe_callB hc hg hm hb ha.pe hn hdb he hpl, snd_cl hv ha.sn⟩
theorem de_callT {T : String} {x : Str} {r : List V → Hp → VK → Prop} {f : List D → Option D} {e : Expr} {es : List Expr} {ta : TA} {ma : MA O} {p pos : Pos} (hc : CallR X (.type T) r) (hv : VCl K r f) (hm : X.mg x = none) (hb : bootBuiltins x = some (.type T)) (ha : DA K O Wx X (e :: es) ta ma)
    (hg : Gl X x := by rfl) (hn : x ≠ "__name__" := by decide) (hdb : (x == ("__debug__" : Str)) = false := by decide) (he : starEach (e :: es) X.env = (false, eval e X.env) :: starEach es X.env := by rfl) (hpl : (backTo pos (starEach es X.env)).any (·.1) = false := by rfl) :
    DE K O Wx X (.Call (.Name x p) (e :: es) [] pos) (tCB r ta) (mCl O f ma) := ⟨ha.hK, ha.tk, pe_callTy hc hg hm hb ha.pe hn hdb he hpl, snd_cl hv ha.sn⟩
/-- a def's promise by its mirror -/
def PstF (K : PySem.W.Frag) (O : Wo) (G H : Hp) (r : R O.S D) (Q : VK) (E : XK) : Prop :=
  match r with
  | .ok d s' => ∀ v G' H', Tr O.W G H G' H' → O.ok s' H' → Rep K G' v d → Q v H'
  | .err c fs s' => ∀ dd xs G' H', Tr O.W G H G' H' → O.ok s' H' → H' dd = some (.xd xs) → ¬ O.W dd → RepF K G' xs fs → E (.ref c) (some dd) H'
  | .bad => False
def spM (K : PySem.W.Frag) (O : Wo) (n : Nat) (m : List D → O.S → R O.S D) : Sp := fun vs H Q E => vs.length = n ∧ ∃ G ds s, Same G H ∧ (∀ a, O.W a → G a = none) ∧ O.ok s H ∧ Reps K G vs ds ∧ PstF K O G H (m ds s) Q E
def mCall (O : Wo) (n : Nat) (m : List D → O.S → R O.S D) (a : MA O) : ME O := fun ρ s => (a ρ s).bind fun xs s1 => if xs.length = n then m xs s1 else .bad
theorem call_snd {n : Nat} {m : List D → O.S → R O.S D} {ta : TA} {ma : MA O} (h : SndA K O Wx ta ma) : SndE K O Wx (tCallS (spM K O n m) (WE Wx) ta) (mCall O n m ma) := by
  intro σ ρ H0 G H s Q F hq
  refine h σ ρ H0 G H s _ F (pst_bind hq fun ds s1 _ xs G1 H1 t1 k1 r1 h1 => ?_)
  have F1 := F.tr t1 k1
  by_cases e : ds.length = n
  · rw [if_pos e] at h1
    refine ⟨by rw [r1.length]; exact e, G1, ds, s1, F1.gh, F1.wg, F1.ok, r1, ?_⟩
    revert h1
    cases m ds s1 <;> exact fun h1 => h1
  · rw [if_neg e] at h1
    exact (show False from h1).elim
/-- what is known of a def that is called by its name -/
structure Fo (P : Program) (w : World) (K : PySem.W.Frag) (mg : Str → Option Value) (base : Heap) (O : Wo) (k : Nat) (x : Str) (n : Nat) (m : List D → O.S → R O.S D) : Prop where
  ex : ∃ f fd ps, FnOk P w K mg base (L2.CX P w) k f fd ps (spM K O n m) ∧ mg x = some (.ref f) ∧ PySem.W.keepIn K (.ref f) = true ∧ Binds K fd ps []
theorem de_call {k j n : Nat} {x : Str} {m : List D → O.S → R O.S D} {e : Expr} {es : List Expr} {ta : TA} {ma : MA O} {p pos : Pos} (F : Fo X.prog X.w X.K X.mg X.base O k x n m) (hr : Room j X.A) (hk : k ≤ j) (ha : DA K O Wx X (e :: es) ta ma)
    (hg : Gl X x := by rfl) (hdb : (x == ("__debug__" : Str)) = false := by decide) (he : starEach (e :: es) X.env = (false, eval e X.env) :: starEach es X.env := by rfl) (hpl : (backTo pos (starEach es X.env)).any (·.1) = false := by rfl) :
    DE K O Wx X (.Call (.Name x p) (e :: es) [] pos) (tCallS (spM K O n m) (WE Wx) ta) (mCall O n m ma) := by
  obtain ⟨f, fd, ps, Fn, hm, kp, bi⟩ := F.ex
  refine ⟨ha.hK, ha.tk, ?_, call_snd ha.sn⟩
  have := ha.hK
  subst this
  exact pe_callS Fn (hr.mono hk) hg hm kp bi (fun σ => passAt ha.tk σ) ha.pe hdb he hpl
theorem de_call0 {k j : Nat} {x : Str} {m : List D → O.S → R O.S D} {p pos : Pos} (F : Fo X.prog X.w X.K X.mg X.base O k x 0 m) (hr : Room j X.A) (hk : k ≤ j) (c : Cn K Wx X)
    (hg : Gl X x := by rfl) (hdb : (x == ("__debug__" : Str)) = false := by decide) :
    DE K O Wx X (.Call (.Name x p) [] [] pos) (tCallS (spM K O 0 m) (WE Wx) tNil) (mCall O 0 m (mNil O)) := by
  obtain ⟨f, fd, ps, Fn, hm, kp, bi⟩ := F.ex
  have d0 := da_nil (O := O) c
  refine ⟨c.hK, c.tk, ?_, call_snd d0.sn⟩
  have := c.hK
  subst this
  refine ⟨fun pins s σ H Q I h => ?_⟩
  refine wpAny_Call_Name_kw (ld_glob I hg hm ?_ hdb)
  exact PySem.W.callWith_K0 I.kIn kp (run_fnS (us := []) Fn (hr.mono hk) bi (passAt c.tk σ) I .nil h)
end
end Mr

namespace Mr
open PySem PySem.Spec PyProof.Rows L2
section
variable {K : PySem.W.Frag} {O : Wo} {Wx : WX} {X : Cx}
/-! ### arithmetic -/
/-- the sum of two lists, wherever they stand -/
def rCatG (K : PySem.W.Frag) : R2 := fun x y H Q => ∃ l b xs zs, x = .ref l ∧ y = .ref b ∧ SqL K H l xs ∧ SqL K H b zs ∧ xs.length + zs.length ≤ sizeLine ∧ ∀ p, H p = none → Q (.ref p) (upd H p (.lst (xs ++ zs)))
theorem op_catG : OpR X (binaryOp .Add) (rCatG X.K) := by
  intro pins s σ H x y v u Q I rx ry h
  obtain ⟨l, b, xs, zs, rfl, rfl, hH, hB, hz, q⟩ := h
  cases rx
  cases ry
  obtain ⟨its, r, p1, _⟩ := I.list hH
  obtain ⟨its2, r2, p2, _⟩ := I.list hB
  obtain ⟨⟨cls, dd, data, sl⟩, ho, hc, n, hd⟩ := id p1.isList
  obtain ⟨⟨cls2, dd2, data2, sl2⟩, ho2, hc2, n2, hd2⟩ := id p2.isList
  simp only at hc hd hc2 hd2
  subst hc hd hc2 hd2
  have e : its.toArray ++ its2.toArray = (its ++ its2).toArray := by simp
  have l1 := r.length
  have l2 := r2.length
  refine concat_meets ⟨_, ho, rfl⟩ ⟨_, ho2, rfl⟩ noFill_list_add seq_list_add PySem.F.slot_list_add PySem.F.entry_list_add (PySem.F.args_list_add_2 _ _) (list_addW l b its.toArray its2.toArray n n2 dd dd2 sl sl2 (by rw [List.size_toArray, List.size_toArray]; omega)) ⟨ho, ho2, ?_⟩
  rw [e]
  exact ⟨.ref _, _, I.lnew (t' := s.toks) (r.append r2) (by rw [List.length_append]; omega), rfl, q _ I.fresh⟩
def rStrAdd : R2 := fun x y H Q => ∃ i j, x = .str i ∧ y = .str j ∧ i.length + j.length ≤ sizeLine ∧ Q (.str (i ++ j)) H
def rAddG (K : PySem.W.Frag) : R2 := fun x y H Q => rI0 (fun i j => .int (i + j)) x y H Q ∨ rCatG K x y H Q ∨ rCatA K x y H Q ∨ rStrAdd x y H Q
theorem op_addG (hK : X.K = K) : OpR X (binaryOp .Add) (rAddG K) := by
  subst hK
  exact op_add.or (op_catG.or (op_catA.or op_add_str))
def dAdd : D → D → Option D
  | .int i, .int j => some (.int (i + j))
  | .lst xs, .lst ys => if xs.length + ys.length ≤ 100000 then some (.lst (xs ++ ys)) else none
  | .tup xs, .tup ys => if xs.length + ys.length ≤ 100000 then some (.tup (xs ++ ys)) else none
  | .str x, .str y => if x.length + y.length ≤ 100000 then some (.str (x ++ y)) else none
  | _, _ => none
/-- a new object, told -/
theorem new_lst {G H : Hp} {p : Addr} {vs : List V} {ds : List D} (g : Same G H) (n : H p = none) (r : Reps K G vs ds) : Rep K (upd G p (.lst vs)) (.ref p) (.lst ds) :=
  .lst (.inl (.inl upd_same)) (r.mono (Tr0.new (o := .lst vs) g n).gg)
theorem new_tup {G H : Hp} {p : Addr} {vs : List V} {ds : List D} (g : Same G H) (n : H p = none) (r : Reps K G vs ds) : Rep K (upd G p (.tup vs)) (.ref p) (.tup ds) :=
  .tup (.inl (.inl upd_same)) (r.mono (Tr0.new (o := .tup vs) g n).gg)
theorem Reps.nil_iff {G : Hp} {vs : List V} {ds : List D} (r : Reps K G vs ds) : vs = [] ↔ ds = [] := by
  cases r <;> simp
theorem vop_add : VOp K (rAddG K) dAdd := by
  intro G H x y dx dy d Q g rx ry e q
  unfold dAdd at e
  split at e
  · cases e; cases rx; cases ry
    exact .inl ⟨_, _, rfl, rfl, q _ G H (.refl g) (.int _)⟩
  · split at e
    · rename_i hz
      cases e
      cases rx with
      | lst hx r1 =>
        cases ry with
        | lst hy r2 =>
          have l1 := r1.length
          have l2 := r2.length
          exact .inr (.inl ⟨_, _, _, _, rfl, rfl, g.seq hx, g.seq hy, sz5 (by omega), fun p n => q _ _ _ (Tr0.new g n) (new_lst g n (r1.append r2))⟩)
    · cases e
  · split at e
    · rename_i hz
      cases e
      cases rx with
      | @tup a vs ds hx r1 =>
        cases ry with
        | @tup b ws es hy r2 =>
          have l1 := r1.length
          have l2 := r2.length
          refine .inr (.inr (.inl ⟨_, _, vs, ws, rfl, rfl, sq_t g hx, sq_t g hy, sz5 (by omega), fun z => ?_, fun z z2 => ?_, fun z z2 p n => ?_⟩))
          · have z' := r1.nil_iff.mp z
            subst z'
            exact q _ G H (.refl g) (.tup hy r2)
          · have z' := r2.nil_iff.mp z2
            subst z'
            rw [List.append_nil] at q
            exact q _ G H (.refl g) (.tup hx r1)
          · exact q _ _ _ (Tr0.new g n) (new_tup g n (r1.append r2))
    · cases e
  · split at e
    · rename_i hz
      cases e; cases rx; cases ry
      exact .inr (.inr (.inr ⟨_, _, rfl, rfl, sz5 hz, q _ G H (.refl g) (.str _)⟩))
    · cases e
  · cases e
def dInt2 (f : Int → Int → Option D) : D → D → Option D
  | .int i, .int j => f i j
  | _, _ => none
theorem vop_int {C : Int → Int → Prop} [∀ i j, Decidable (C i j)] {f : Int → Int → Int} : VOp K (rI C fun i j => .int (f i j)) (dInt2 fun i j => if C i j then some (.int (f i j)) else none) := by
  intro G H x y dx dy d Q g rx ry e q
  unfold dInt2 at e
  split at e
  · dsimp only at e
    split at e
    · rename_i hc
      cases e; cases rx; cases ry
      exact ⟨_, _, rfl, rfl, hc, q _ G H (.refl g) (.int _)⟩
    · cases e
  · cases e
theorem vop_int0 {f : Int → Int → Int} : VOp K (rI0 fun i j => .int (f i j)) (dInt2 fun i j => some (.int (f i j))) := by
  intro G H x y dx dy d Q g rx ry e q
  unfold dInt2 at e
  split at e
  · cases e; cases rx; cases ry
    exact ⟨_, _, rfl, rfl, q _ G H (.refl g) (.int _)⟩
  · cases e
theorem vop_intB {f : Int → Int → Bool} : VOp K (rI0 fun i j => .bl (f i j)) (dInt2 fun i j => some (.bl (f i j))) := by
  intro G H x y dx dy d Q g rx ry e q
  unfold dInt2 at e
  split at e
  · cases e; cases rx; cases ry
    exact ⟨_, _, rfl, rfl, q _ G H (.refl g) (.bl _)⟩
  · cases e
def dSub : D → D → Option D := dInt2 fun i j => some (.int (i - j))
def CMulG (i j : Int) : Prop := i.natAbs.log2 < 4000 ∧ j.natAbs.log2 < 4000
instance : ∀ i j, Decidable (CMulG i j) := fun i j => by unfold CMulG; infer_instance
theorem CMulG.w {i j : Int} (h : CMulG i j) : CMulW i j := by unfold CMulG at h; unfold CMulW; omega
theorem op_mulG : OpR X (binaryOp .Mult) (rI CMulG fun i j => .int (i * j)) := opI fun _ _ _ _ _ _ _ hc q => mul_int q hc.w.ok
theorem iop_mulG : OpR X (inplaceOp .Mult) (rI CMulG fun i j => .int (i * j)) := opI fun _ _ _ _ _ _ _ hc q => imul_int q hc.w.ok
/-- a list times an int -/
def rRepG (K : PySem.W.Frag) : R2 := fun x y H Q => rI CMulG (fun i j => .int (i * j)) x y H Q ∨ rRep x y H Q
theorem op_mulL (hK : X.K = K) : OpR X (binaryOp .Mult) (rRepG K) := op_mulG.or op_rep
def dMul : D → D → Option D := dInt2 fun i j => if CMulG i j then some (.int (i * j)) else none
theorem vop_mul : VOp K (rI CMulG fun i j => .int (i * j)) dMul := vop_int
def CDivG (i j : Int) : Prop := j ≠ 0 ∧ j.natAbs.log2 < 9000
instance : ∀ i j, Decidable (CDivG i j) := fun i j => by unfold CDivG; infer_instance
theorem op_fdivG : OpR X (binaryOp .FloorDiv) (rI CDivG fun i j => .int (i.fdiv j)) := opI fun i j _ _ _ _ _ hc q => floordiv_int hc.1 q (.inl (PyProof.noPylong_of_log2 hc.2))
theorem iop_fdivG : OpR X (inplaceOp .FloorDiv) (rI CDivG fun i j => .int (i.fdiv j)) := opI fun i j _ _ _ _ _ hc q => ifloordiv_int hc.1 q (.inl (PyProof.noPylong_of_log2 hc.2))
def dDiv : D → D → Option D := dInt2 fun i j => if CDivG i j then some (.int (i.fdiv j)) else none
theorem vop_div : VOp K (rI CDivG fun i j => .int (i.fdiv j)) dDiv := vop_int
def CModG (i j : Int) : Prop := j ≠ 0
instance : ∀ i j, Decidable (CModG i j) := fun i j => by unfold CModG; infer_instance
theorem op_modG : OpR X (binaryOp .Mod) (rI CModG fun i j => .int (i.fmod j)) := opI fun _ _ _ _ _ _ _ hc q => mod_int' hc q
def dMod : D → D → Option D := dInt2 fun i j => if CModG i j then some (.int (i.fmod j)) else none
theorem vop_mod : VOp K (rI CModG fun i j => .int (i.fmod j)) dMod := vop_int
def CPowG (i j : Int) : Prop := 0 ≤ j ∧ j ≤ 1000 ∧ i.natAbs < 2 ^ 64
instance : ∀ i j, Decidable (CPowG i j) := fun i j => by unfold CPowG; infer_instance
theorem op_powG : OpR X (binaryOp .Pow) (rI CPowG fun i j => .int (i ^ j.toNat)) := opI fun _ _ _ _ _ _ _ hc q => pow_int_small hc.1 (by have := hc.2.1; omega) hc.2.2 q
def dPow : D → D → Option D := dInt2 fun i j => if CPowG i j then some (.int (i ^ j.toNat)) else none
theorem vop_pow : VOp K (rI CPowG fun i j => .int (i ^ j.toNat)) dPow := vop_int
def dNeg : D → Option D
  | .int i => some (.int (-i))
  | _ => none
theorem vun_neg : VUn K (rU fun i => .int (-i)) dNeg := by
  intro G H x dx d Q g rx e q
  unfold dNeg at e
  split at e
  · cases e; cases rx
    exact ⟨_, rfl, q _ G H (.refl g) (.int _)⟩
  · cases e
section
variable {a b c : Expr} {ta tb tc : TE} {ma mb mc : ME O} {pos : Pos}
theorem de_add (ha : DE K O Wx X a ta ma) (hb : DE K O Wx X b tb mb) : DE K O Wx X (.BinOp a .Add b pos) (tOp (rAddG K) ta tb) (mBin O dAdd ma mb) := de_bin (op_addG ha.hK) vop_add ha hb
theorem de_sub (ha : DE K O Wx X a ta ma) (hb : DE K O Wx X b tb mb) : DE K O Wx X (.BinOp a .Sub b pos) (tOp (rI0 fun i j => .int (i - j)) ta tb) (mBin O dSub ma mb) := de_bin op_sub vop_int0 ha hb
theorem de_mul (ha : DE K O Wx X a ta ma) (hb : DE K O Wx X b tb mb) : DE K O Wx X (.BinOp a .Mult b pos) (tOp (rI CMulG fun i j => .int (i * j)) ta tb) (mBin O dMul ma mb) := de_bin op_mulG vop_mul ha hb
theorem de_div (ha : DE K O Wx X a ta ma) (hb : DE K O Wx X b tb mb) : DE K O Wx X (.BinOp a .FloorDiv b pos) (tOp (rI CDivG fun i j => .int (i.fdiv j)) ta tb) (mBin O dDiv ma mb) := de_bin op_fdivG vop_div ha hb
theorem de_mod (ha : DE K O Wx X a ta ma) (hb : DE K O Wx X b tb mb) : DE K O Wx X (.BinOp a .Mod b pos) (tOp (rI CModG fun i j => .int (i.fmod j)) ta tb) (mBin O dMod ma mb) := de_bin op_modG vop_mod ha hb
theorem de_pow (ha : DE K O Wx X a ta ma) (hb : DE K O Wx X b tb mb) : DE K O Wx X (.BinOp a .Pow b pos) (tOp (rI CPowG fun i j => .int (i ^ j.toNat)) ta tb) (mBin O dPow ma mb) := de_bin op_powG vop_pow ha hb
theorem de_neg (ha : DE K O Wx X a ta ma) : DE K O Wx X (.UnaryOp .USub a pos) (tUn (rU fun i => .int (-i)) ta) (mUn O dNeg ma) := de_unop un_neg vun_neg ha
end
/-! ### comparisons -/
def dLt : D → D → Option D := dInt2 fun i j => some (.bl (decide (i < j)))
def dLe : D → D → Option D := dInt2 fun i j => some (.bl (decide (i ≤ j)))
def dGt : D → D → Option D := dInt2 fun i j => some (.bl (decide (j < i)))
def dGe : D → D → Option D := dInt2 fun i j => some (.bl (decide (j ≤ i)))
mutual
def toP : D → Option PyData
  | .non => some .none
  | .bl b => some (.bool b)
  | .int i => some (.int i)
  | .str x => some (.str x)
  | .lst xs => (toPs xs).map .list
  | .tup xs => (toPs xs).map .tuple
  | _ => none
def toPs : List D → Option (List PyData)
  | [] => some []
  | x :: xs => match toP x, toPs xs with
    | some p, some ps => some (p :: ps)
    | _, _ => none
end
mutual
theorem Rep.dp {G H : Hp} (g : Same G H) : ∀ {v : V} {d : D} {p : PyData}, Rep K G v d → toP d = some p → Dp K H v p
  | _, _, _, .non, h => by simp only [toP, Option.some.injEq] at h; subst h; exact .non
  | _, _, _, .bl b, h => by simp only [toP, Option.some.injEq] at h; subst h; exact .bl b
  | _, _, _, .int b, h => by simp only [toP, Option.some.injEq] at h; subst h; exact .int b
  | _, _, _, .str b, h => by simp only [toP, Option.some.injEq] at h; subst h; exact .str b
  | _, _, _, .lst hs r, h => by
    simp only [toP, Option.map_eq_some_iff] at h
    obtain ⟨ps, h1, rfl⟩ := h
    exact .lst (g.seq hs) (Reps.dp g r h1)
  | _, _, _, .tup hs r, h => by
    simp only [toP, Option.map_eq_some_iff] at h
    obtain ⟨ps, h1, rfl⟩ := h
    exact .tup (sq_t g hs) (Reps.dp g r h1)
  | _, _, _, .ref a, h => by simp [toP] at h
  | _, _, _, .ty a, h => by simp [toP] at h
  | _, _, _, .ins _ _, h => by simp [toP] at h
  | _, _, _, .dct _ _, h => by simp [toP] at h
theorem Reps.dp {G H : Hp} (g : Same G H) : ∀ {v : List V} {d : List D} {p : List PyData}, Reps K G v d → toPs d = some p → DpAll K H v p
  | _, _, _, .nil, h => by simp only [toPs, Option.some.injEq] at h; subst h; exact .nil
  | _, _, _, .cons q r, h => by
    simp only [toPs] at h
    split at h
    · rename_i p ps e1 e2
      cases h
      exact .cons (Rep.dp g q e1) (Reps.dp g r e2)
    · cases h
end
/-- == of data: scalars of one kind outright, the rest where it is shaped -/
def dEqB : D → D → Option Bool
  | .int i, .int j => some (decide (i = j))
  | .str i, .str j => some (decide (i = j))
  | .bl i, .bl j => some (decide (i = j))
  | .non, .non => some true
  | .non, .int _ => some false
  | .int _, .non => some false
  | .int _, .str _ => some false
  | .str _, .int _ => some false
  | .non, .str _ => some false
  | .str _, .non => some false
  | a, b => match toP a, toP b with
    | some p, some q => if SeqAt.shaped p = true ∧ SeqAt.shaped q = true then some (PyData.eqv p q) else none
    | _, _ => none
def rEqG (K : PySem.W.Frag) : R2 := fun x y H Q => rEq x y H Q ∨ rEqD K x y H Q
def rNeG (K : PySem.W.Frag) : R2 := fun x y H Q => rNe x y H Q ∨ rNeD K x y H Q
theorem op_eqG (hK : X.K = K) (hu : X.A.units + 64 < cLine) : OpR X (compareOp .Eq) (rEqG K) := by subst hK; exact op_eq.or (op_eqD hu)
theorem op_neG (hK : X.K = K) (hu : X.A.units + 64 < cLine) : OpR X (compareOp .NotEq) (rNeG K) := by subst hK; exact op_ne.or (op_neD hu)
theorem eqB_ok {G H : Hp} {x y : V} {dx dy : D} {b : Bool} (g : Same G H) (rx : Rep K G x dx) (ry : Rep K G y dy) (e : dEqB dx dy = some b) :
    (scal x y = true ∧ decide (x = y) = b) ∨ ∃ p q, Dp K H x p ∧ Dp K H y q ∧ SeqAt.shaped p = true ∧ SeqAt.shaped q = true ∧ PyData.eqv p q = b := by
  unfold dEqB at e
  split at e
  · cases e; cases rx; cases ry
    exact .inl ⟨rfl, by simp⟩
  · cases e; cases rx; cases ry
    exact .inl ⟨rfl, by simp⟩
  · cases e; cases rx; cases ry
    exact .inl ⟨rfl, by simp⟩
  · cases e; cases rx; cases ry
    exact .inl ⟨rfl, by simp⟩
  · cases e; cases rx; cases ry
    exact .inl ⟨rfl, by simp⟩
  · cases e; cases rx; cases ry
    exact .inl ⟨rfl, by simp⟩
  · cases e; cases rx; cases ry
    exact .inl ⟨rfl, by simp⟩
  · cases e; cases rx; cases ry
    exact .inl ⟨rfl, by simp⟩
  · cases e; cases rx; cases ry
    exact .inl ⟨rfl, by simp⟩
  · cases e; cases rx; cases ry
    exact .inl ⟨rfl, by simp⟩
  · split at e
    · rename_i p q e1 e2
      split at e
      · rename_i hs
        cases e
        exact .inr ⟨p, q, rx.dp g e1, ry.dp g e2, hs.1, hs.2, rfl⟩
      · cases e
    · cases e
def dEq (a b : D) : Option D := (dEqB a b).map .bl
def dNe (a b : D) : Option D := (dEqB a b).map fun c => .bl (!c)
theorem vop_eq : VOp K (rEqG K) dEq := by
  intro G H x y dx dy d Q g rx ry e q
  unfold dEq at e
  rw [Option.map_eq_some_iff] at e
  obtain ⟨b, e, rfl⟩ := e
  rcases eqB_ok g rx ry e with ⟨h1, h2⟩ | ⟨p, r, h1, h2, h3, h4, h5⟩
  · exact .inl ⟨h1, by rw [h2]; exact q _ G H (.refl g) (.bl _)⟩
  · exact .inr ⟨p, r, h1, h2, h3, h4, by rw [h5]; exact q _ G H (.refl g) (.bl _)⟩
theorem vop_ne : VOp K (rNeG K) dNe := by
  intro G H x y dx dy d Q g rx ry e q
  unfold dNe at e
  rw [Option.map_eq_some_iff] at e
  obtain ⟨b, e, rfl⟩ := e
  rcases eqB_ok g rx ry e with ⟨h1, h2⟩ | ⟨p, r, h1, h2, h3, h4, h5⟩
  · exact .inl ⟨h1, by rw [h2]; exact q _ G H (.refl g) (.bl _)⟩
  · exact .inr ⟨p, r, h1, h2, h3, h4, by rw [h5]; exact q _ G H (.refl g) (.bl _)⟩
/-- flat data as values -/
def toV : D → Option V
  | .non => some .non
  | .bl b => some (.bl b)
  | .int i => some (.int i)
  | .str x => some (.str x)
  | _ => none
def toVs : List D → Option (List V)
  | [] => some []
  | x :: xs => match toV x, toVs xs with
    | some p, some ps => some (p :: ps)
    | _, _ => none
theorem Rep.toV {G : Hp} {v w : V} {d : D} (r : Rep K G v d) (h : Mr.toV d = some w) : v = w ∧ flatV w = true := by
  cases r <;> cases h <;> exact ⟨rfl, rfl⟩
theorem Reps.toVs {G : Hp} : ∀ {vs ws : List V} {ds : List D}, Reps K G vs ds → Mr.toVs ds = some ws → vs = ws ∧ ws.all flatV = true
  | _, _, _, .nil, h => by cases h; exact ⟨rfl, rfl⟩
  | _, _, _, .cons q r, h => by
    simp only [Mr.toVs] at h
    split at h
    · rename_i p ps e1 e2
      cases h
      obtain ⟨h1, h2⟩ := q.toV e1
      obtain ⟨h3, h4⟩ := Reps.toVs r e2
      subst h1 h3
      exact ⟨rfl, by rw [List.all_cons, h2, h4]; rfl⟩
    · cases h
def dInB (x : D) : D → Option Bool
  | .lst ys => match toV x, toVs ys with
    | some v, some vs => some (inV v vs)
    | _, _ => none
  | .tup ys => match toV x, toVs ys with
    | some v, some vs => some (inV v vs)
    | _, _ => none
  | _ => none
theorem inB_ok {G H : Hp} {x y : V} {dx dy : D} {b : Bool} (g : Same G H) (rx : Rep K G x dx) (ry : Rep K G y dy) (e : dInB dx dy = some b) :
    ∃ p xs, y = .ref p ∧ (SqL K H p xs ∨ SqT K H p xs) ∧ flatV x = true ∧ xs.all flatV = true ∧ inV x xs = b := by
  cases ry with
  | lst hs r =>
    simp only [dInB] at e
    split at e
    · rename_i v vs e1 e2
      cases e
      obtain ⟨h1, h2⟩ := rx.toV e1
      obtain ⟨h3, h4⟩ := r.toVs e2
      subst h1 h3
      exact ⟨_, _, rfl, .inl (g.seq hs), h2, h4, rfl⟩
    · cases e
  | tup hs r =>
    simp only [dInB] at e
    split at e
    · rename_i v vs e1 e2
      cases e
      obtain ⟨h1, h2⟩ := rx.toV e1
      obtain ⟨h3, h4⟩ := r.toVs e2
      subst h1 h3
      exact ⟨_, _, rfl, .inr (sq_t g hs), h2, h4, rfl⟩
    · cases e
  | _ => simp [dInB] at e
def dIn (x y : D) : Option D := (dInB x y).map .bl
def dNotIn (x y : D) : Option D := (dInB x y).map fun c => .bl (!c)
theorem vop_in : VOp K (rIn K false) dIn := by
  intro G H x y dx dy d Q g rx ry e q
  unfold dIn at e
  rw [Option.map_eq_some_iff] at e
  obtain ⟨b, e, rfl⟩ := e
  obtain ⟨p, xs, h1, h2, h3, h4, h5⟩ := inB_ok g rx ry e
  refine ⟨p, xs, h1, h2, h3, h4, ?_⟩
  rw [h5]
  exact q _ G H (.refl g) (.bl _)
theorem vop_notIn : VOp K (rIn K true) dNotIn := by
  intro G H x y dx dy d Q g rx ry e q
  unfold dNotIn at e
  rw [Option.map_eq_some_iff] at e
  obtain ⟨b, e, rfl⟩ := e
  obtain ⟨p, xs, h1, h2, h3, h4, h5⟩ := inB_ok g rx ry e
  refine ⟨p, xs, h1, h2, h3, h4, ?_⟩
  rw [h5]
  exact q _ G H (.refl g) (.bl _)
theorem op_inG (hK : X.K = K) : OpR X (compareOp .In) (rIn K false) := by subst hK; exact op_in_seq
theorem op_notInG (hK : X.K = K) : OpR X (compareOp .NotIn) (rIn K true) := by subst hK; exact op_notIn_seq
/-- is None, is True, is False -/
def rIsG : R2 := fun x y H Q => (y = .non ∧ Q (.bl (decide (x = .non))) H) ∨ rIsB x y H Q
def rNotIsG : R2 := fun x y H Q => (y = .non ∧ Q (.bl (!decide (x = .non))) H) ∨ rNotB x y H Q
def isNon : D → Bool
  | .non => true
  | _ => false
def dIsB : D → D → Option Bool
  | x, .non => some (isNon x)
  | .bl a, .bl b => some (decide (a = b))
  | _, _ => none
def dIs (x y : D) : Option D := (dIsB x y).map .bl
def dNotIs (x y : D) : Option D := (dIsB x y).map fun c => .bl (!c)
theorem Rep.isNon {G : Hp} {v : V} {d : D} (r : Rep K G v d) : decide (v = V.non) = Mr.isNon d := by
  cases r <;> simp [Mr.isNon]
theorem vop_is : VOp K rIsG dIs := by
  intro G H x y dx dy d Q g rx ry e q
  unfold dIs at e
  rw [Option.map_eq_some_iff] at e
  obtain ⟨b, e, rfl⟩ := e
  unfold dIsB at e
  split at e
  · cases e; cases ry
    exact .inl ⟨rfl, by rw [rx.isNon]; exact q _ G H (.refl g) (.bl _)⟩
  · cases e; cases rx; cases ry
    exact .inr ⟨_, _, rfl, rfl, q _ G H (.refl g) (.bl _)⟩
  · cases e
theorem vop_notIs : VOp K rNotIsG dNotIs := by
  intro G H x y dx dy d Q g rx ry e q
  unfold dNotIs at e
  rw [Option.map_eq_some_iff] at e
  obtain ⟨b, e, rfl⟩ := e
  unfold dIsB at e
  split at e
  · cases e; cases ry
    exact .inl ⟨rfl, by rw [rx.isNon]; exact q _ G H (.refl g) (.bl _)⟩
  · cases e; cases rx; cases ry
    exact .inr ⟨_, _, rfl, rfl, q _ G H (.refl g) (.bl _)⟩
  · cases e
theorem op_isG : OpR X (compareOp .Is) rIsG := op_isN.or op_isBl
theorem op_notIsG : OpR X (compareOp .IsNot) rNotIsG := op_notN.or op_notBl
/-! the rules by operator: the operation's rule, its data function, its mark -/
section
variable {a b c : Expr} {ta tb tc : TE} {ma mb mc : ME O} {pos : Pos} {j : Nat}
theorem de_lt (ha : DE K O Wx X a ta ma) (hb : DE K O Wx X b tb mb) : DE K O Wx X (.Compare a [.Lt] [b] pos) (tOp (rI0 fun i j => .bl (decide (i < j))) ta tb) (mBin O dLt ma mb) := de_cmp op_lt vop_intB ha hb (nomark _)
theorem de_le (ha : DE K O Wx X a ta ma) (hb : DE K O Wx X b tb mb) : DE K O Wx X (.Compare a [.LtE] [b] pos) (tOp (rI0 fun i j => .bl (decide (i ≤ j))) ta tb) (mBin O dLe ma mb) := de_cmp op_le vop_intB ha hb (nomark _)
theorem de_gt (ha : DE K O Wx X a ta ma) (hb : DE K O Wx X b tb mb) : DE K O Wx X (.Compare a [.Gt] [b] pos) (tOp (rI0 fun i j => .bl (decide (j < i))) ta tb) (mBin O dGt ma mb) := de_cmp op_gt vop_intB ha hb (nomark _)
theorem de_ge (ha : DE K O Wx X a ta ma) (hb : DE K O Wx X b tb mb) : DE K O Wx X (.Compare a [.GtE] [b] pos) (tOp (rI0 fun i j => .bl (decide (j ≤ i))) ta tb) (mBin O dGe ma mb) := de_cmp op_ge vop_intB ha hb (nomark _)
theorem de_eq (hr : Room j X.A) (ha : DE K O Wx X a ta ma) (hb : DE K O Wx X b tb mb) : DE K O Wx X (.Compare a [.Eq] [b] pos) (tOp (rEqG K) ta tb) (mBin O dEq ma mb) := de_cmp (op_eqG ha.hK hr.units) vop_eq ha hb (nomark _)
theorem de_ne (hr : Room j X.A) (ha : DE K O Wx X a ta ma) (hb : DE K O Wx X b tb mb) : DE K O Wx X (.Compare a [.NotEq] [b] pos) (tOp (rNeG K) ta tb) (mBin O dNe ma mb) := de_cmp (op_neG ha.hK hr.units) vop_ne ha hb (nomark _)
theorem de_in (ha : DE K O Wx X a ta ma) (hb : DE K O Wx X b tb mb) (hm : behindInMarks .In b = false := by first | rfl | with_unfolding_all rfl) : DE K O Wx X (.Compare a [.In] [b] pos) (tOp (rIn K false) ta tb) (mBin O dIn ma mb) := de_cmp (op_inG ha.hK) vop_in ha hb hm
theorem de_notIn (ha : DE K O Wx X a ta ma) (hb : DE K O Wx X b tb mb) (hm : behindInMarks .NotIn b = false := by first | rfl | with_unfolding_all rfl) : DE K O Wx X (.Compare a [.NotIn] [b] pos) (tOp (rIn K true) ta tb) (mBin O dNotIn ma mb) := de_cmp (op_notInG ha.hK) vop_notIn ha hb hm
theorem de_is (ha : DE K O Wx X a ta ma) (hb : DE K O Wx X b tb mb) : DE K O Wx X (.Compare a [.Is] [b] pos) (tOp rIsG ta tb) (mBin O dIs ma mb) := de_cmp op_isG vop_is ha hb (nomark _)
theorem de_notIs (ha : DE K O Wx X a ta ma) (hb : DE K O Wx X b tb mb) : DE K O Wx X (.Compare a [.IsNot] [b] pos) (tOp rNotIsG ta tb) (mBin O dNotIs ma mb) := de_cmp op_notIsG vop_notIs ha hb (nomark _)
/-- a comparison's value as a test -/
theorem dt_of {op : CmpOp} {r : R2} {f : D → D → Option D} (h : DE K O Wx X (.Compare a [op] [b] pos) (tOp r ta tb) (mBin O f ma mb)) (hp : PT X (.Compare a [op] [b] pos) (tTest (tOp r ta tb))) :
    DT K O Wx X (.Compare a [op] [b] pos) (tTest (tOp r ta tb)) (mTest O (mBin O f ma mb)) := ⟨h.hK, h.tk, hp, snd_test h.sn⟩
theorem dt_lt (ha : DE K O Wx X a ta ma) (hb : DE K O Wx X b tb mb) : DT K O Wx X (.Compare a [.Lt] [b] pos) (tTest (tOp (rI0 fun i j => .bl (decide (i < j))) ta tb)) (mTest O (mBin O dLt ma mb)) := dt_cmp op_lt vop_intB ha hb (nomark _)
theorem dt_le (ha : DE K O Wx X a ta ma) (hb : DE K O Wx X b tb mb) : DT K O Wx X (.Compare a [.LtE] [b] pos) (tTest (tOp (rI0 fun i j => .bl (decide (i ≤ j))) ta tb)) (mTest O (mBin O dLe ma mb)) := dt_cmp op_le vop_intB ha hb (nomark _)
theorem dt_gt (ha : DE K O Wx X a ta ma) (hb : DE K O Wx X b tb mb) : DT K O Wx X (.Compare a [.Gt] [b] pos) (tTest (tOp (rI0 fun i j => .bl (decide (j < i))) ta tb)) (mTest O (mBin O dGt ma mb)) := dt_cmp op_gt vop_intB ha hb (nomark _)
theorem dt_ge (ha : DE K O Wx X a ta ma) (hb : DE K O Wx X b tb mb) : DT K O Wx X (.Compare a [.GtE] [b] pos) (tTest (tOp (rI0 fun i j => .bl (decide (j ≤ i))) ta tb)) (mTest O (mBin O dGe ma mb)) := dt_cmp op_ge vop_intB ha hb (nomark _)
theorem dt_eq (hr : Room j X.A) (ha : DE K O Wx X a ta ma) (hb : DE K O Wx X b tb mb) : DT K O Wx X (.Compare a [.Eq] [b] pos) (tTest (tOp (rEqG K) ta tb)) (mTest O (mBin O dEq ma mb)) := dt_cmp (op_eqG ha.hK hr.units) vop_eq ha hb (nomark _)
theorem dt_ne (hr : Room j X.A) (ha : DE K O Wx X a ta ma) (hb : DE K O Wx X b tb mb) : DT K O Wx X (.Compare a [.NotEq] [b] pos) (tTest (tOp (rNeG K) ta tb)) (mTest O (mBin O dNe ma mb)) := dt_cmp (op_neG ha.hK hr.units) vop_ne ha hb (nomark _)
theorem dt_in (ha : DE K O Wx X a ta ma) (hb : DE K O Wx X b tb mb) (hm : behindInMarks .In b = false := by first | rfl | with_unfolding_all rfl) : DT K O Wx X (.Compare a [.In] [b] pos) (tTest (tOp (rIn K false) ta tb)) (mTest O (mBin O dIn ma mb)) := dt_cmp (op_inG ha.hK) vop_in ha hb hm
theorem dt_notIn (ha : DE K O Wx X a ta ma) (hb : DE K O Wx X b tb mb) (hm : behindInMarks .NotIn b = false := by first | rfl | with_unfolding_all rfl) : DT K O Wx X (.Compare a [.NotIn] [b] pos) (tTest (tOp (rIn K true) ta tb)) (mTest O (mBin O dNotIn ma mb)) := dt_cmp (op_notInG ha.hK) vop_notIn ha hb hm
theorem dt_is (ha : DE K O Wx X a ta ma) (hb : DE K O Wx X b tb mb) : DT K O Wx X (.Compare a [.Is] [b] pos) (tTest (tOp rIsG ta tb)) (mTest O (mBin O dIs ma mb)) := dt_cmp op_isG vop_is ha hb (nomark _)
theorem dt_notIs (ha : DE K O Wx X a ta ma) (hb : DE K O Wx X b tb mb) : DT K O Wx X (.Compare a [.IsNot] [b] pos) (tTest (tOp rNotIsG ta tb)) (mTest O (mBin O dNotIs ma mb)) := dt_cmp op_notIsG vop_notIs ha hb (nomark _)
end
/-! chains of two -/
section
variable {a b c : Expr} {ta tb tc : TE} {ma mb mc : ME O} {pos : Pos}
def mChain (O : Wo) (f g : D → D → Option D) (a b c : ME O) : ME O := fun ρ s => (a ρ s).bind fun x s1 => (b ρ s1).bind fun y s2 => (R.lift (f x y) s2).bind fun z s3 => match z with
  | .bl true => (c ρ s3).bind fun w s4 => R.lift (g y w) s4
  | .bl false => .ok (.bl false) s3
  | _ => .bad
theorem snd_chain {r r' : R2} {f g : D → D → Option D} (hv : VOp K r f) (hv' : VOp K r' g) (ha : SndE K O Wx ta ma) (hb : SndE K O Wx tb mb) (hc : SndE K O Wx tc mc) : SndE K O Wx (tChain r r' ta tb tc) (mChain O f g ma mb mc) := by
  intro σ ρ H0 G H s Q F h
  refine ha σ ρ H0 G H s _ F (pst_bind h fun dx s1 _ x G1 H1 t1 k1 r1 h1 => ?_)
  have F1 := F.tr t1 k1
  refine hb σ ρ H0 G1 H1 s1 _ F1 (pst_bind h1 fun dy s2 _ y G2 H2 t2 k2 r2 h2 => ?_)
  have F2 := F1.tr t2 k2
  cases e : f dx dy with
  | none => rw [e] at h2; exact (show False from h2).elim
  | some z =>
    rw [e] at h2
    refine hv G2 H2 x y dx dy z _ F2.gh (r1.mono t2.gg) r2 e fun v G3 H3 t3 r3 => ?_
    have F3 := F2.tr0 t3
    cases z with
    | bl k =>
      cases r3
      cases k with
      | true =>
        refine ⟨true, rfl, ?_⟩
        have h3 : Pst K O Wx σ G2 H2 (Rep K) ((mc ρ s2).bind fun w s4 => R.lift (g dy w) s4) Q := h2
        refine hc σ ρ H0 G3 H3 s2 _ F3 (pst_bind (h3.shift t3.up) fun dw s4 _ w' G4 H4 t4 k4 r4 h4 => ?_)
        have F4 := F3.tr t4 k4
        obtain ⟨d, e5, q5⟩ := pst_lift F4 h4
        exact hv' G4 H4 y w' dy dw d Q F4.gh ((r2.mono t3.gg).mono t4.gg) r4 e5 q5
      | false =>
        refine ⟨false, rfl, ?_⟩
        exact h2 (.bl false) G3 H3 t3.up F3.ok (.bl false)
    | _ => exact (show False from h2).elim
theorem de_chain {op op' : CmpOp} {r r' : R2} {f g : D → D → Option D} (ho : OpR X (compareOp op) r) (ho' : OpR X (compareOp op') r') (hv : VOp K r f) (hv' : VOp K r' g) (ha : DE K O Wx X a ta ma) (hb : DE K O Wx X b tb mb) (hc : DE K O Wx X c tc mc)
    (hm : lastMarks [op, op'] [b, c] = false := by with_unfolding_all rfl) : DE K O Wx X (.Compare a [op, op'] [b, c] pos) (tChain r r' ta tb tc) (mChain O f g ma mb mc) :=
  ⟨ha.hK, ha.tk, pe_chain ho ho' ha.pe hb.pe hc.pe hm, snd_chain hv hv' ha.sn hb.sn hc.sn⟩
theorem dt_chain {op op' : CmpOp} {r r' : R2} {f g : D → D → Option D} (ho : OpR X (compareOp op) r) (ho' : OpR X (compareOp op') r') (hv : VOp K r f) (hv' : VOp K r' g) (ha : DE K O Wx X a ta ma) (hb : DE K O Wx X b tb mb) (hc : DE K O Wx X c tc mc)
    (hm : lastMarks [op, op'] [b, c] = false := by with_unfolding_all rfl) : DT K O Wx X (.Compare a [op, op'] [b, c] pos) (tTest (tChain r r' ta tb tc)) (mTest O (mChain O f g ma mb mc)) :=
  ⟨ha.hK, ha.tk, pt_chain ho ho' ha.pe hb.pe hc.pe hm, snd_test (snd_chain hv hv' ha.sn hb.sn hc.sn)⟩
end
/-! ### subscripts, slices -/
def dIdx : D → D → Option D
  | .lst xs, .int i => atI xs i
  | .tup xs, .int i => atI xs i
  | .str z, .int i => if z.length ≤ 100000 then (atI z.cps.toList i).map fun c => .str ⟨#[c]⟩ else none
  | _, _ => none
theorem Reps.atI {G : Hp} {vs : List V} {ds : List D} {i : Int} {d : D} (r : Reps K G vs ds) (h : L2.atI ds i = some d) : ∃ v, L2.atI vs i = some v ∧ Rep K G v d := by
  unfold L2.atI at h ⊢
  rw [r.length]
  cases e : ixN ds.length i with
  | none => rw [e] at h; cases h
  | some j =>
    rw [e] at h
    exact r.get' h
theorem vop_idx : VOp K (rIx K) dIdx := by
  intro G H x y dx dy d Q g rx ry e q
  unfold dIdx at e
  split at e
  · cases ry
    cases rx with
    | lst hs r =>
      obtain ⟨v, h1, h2⟩ := r.atI e
      exact .inl ⟨_, _, _, v, rfl, rfl, g.seq hs, h1, q _ G H (.refl g) h2⟩
  · cases ry
    cases rx with
    | tup hs r =>
      obtain ⟨v, h1, h2⟩ := r.atI e
      exact .inr (.inl ⟨_, _, _, v, rfl, rfl, sq_t g hs, h1, q _ G H (.refl g) h2⟩)
  · split at e
    · rename_i hz
      rw [Option.map_eq_some_iff] at e
      obtain ⟨c, e, rfl⟩ := e
      cases rx; cases ry
      exact .inr (.inr ⟨_, _, c, rfl, rfl, sz5 hz, e, q _ G H (.refl g) (.str _)⟩)
    · cases e
  · cases e
theorem ix_G (hK : X.K = K) : IxR X (rIx K) := by subst hK; exact ix_seq
theorem de_idx {a b : Expr} {ta tb : TE} {ma mb : ME O} {pos : Pos} (ha : DE K O Wx X a ta ma) (hb : DE K O Wx X b tb mb) (hs : PlainIx b := by exact fun _ _ => rfl) : DE K O Wx X (.Subscript a b pos) (tOp (rIx K) ta tb) (mBin O dIdx ma mb) :=
  ⟨ha.hK, ha.tk, pe_ix (ix_G ha.hK) ha.pe hb.pe hs, snd_op vop_idx ha.sn hb.sn⟩
def cutD (xs : List D) (lo hi : Option Int) : List D := (xs.drop (HT.sIx xs.length 0 lo)).take (HT.sIx xs.length xs.length hi - HT.sIx xs.length 0 lo)
theorem Reps.cut {G : Hp} {vs : List V} {ds : List D} (r : Reps K G vs ds) (lo hi : Option Int) : Reps K G (cutV vs lo hi) (cutD ds lo hi) := by
  unfold cutV cutD
  rw [r.length]
  exact (r.drop _).take _
theorem Reps.cut_whole {G : Hp} {vs : List V} {ds : List D} (r : Reps K G vs ds) {lo hi : Option Int} (z : HT.sIx vs.length 0 lo = 0 ∧ HT.sIx vs.length vs.length hi = vs.length) : cutD ds lo hi = ds := by
  unfold cutD
  rw [← r.length, z.1, z.2, List.drop_zero, Nat.sub_zero, r.length, List.take_length]
def dCut : D → Option Int → Option Int → Option D
  | .lst xs, lo, hi => some (.lst (cutD xs lo hi))
  | .tup xs, lo, hi => some (.tup (cutD xs lo hi))
  | _, _, _ => none
abbrev MO (O : Wo) := Ev → O.S → R O.S (Option Int)
def SndO (K : PySem.W.Frag) (O : Wo) (Wx : WX) (t : TO) (m : MO O) : Prop := ∀ σ ρ H0 G H s Q, Fm K O H0 σ ρ G H s → Pst K O Wx σ G H (fun _ b c => b = c) (m ρ s) Q → t σ H Q
structure DO (K : PySem.W.Frag) (O : Wo) (Wx : WX) (X : Cx) (e : Option Expr) (t : TO) (m : MO O) : Prop where
  hK : X.K = K
  pe : PO X e t
  sn : SndO K O Wx t m
def mNoPart (O : Wo) : MO O := fun _ s => .ok none s
def mPart (O : Wo) (m : ME O) : MO O := fun ρ s => (m ρ s).bind fun x s1 => match x with
  | .int i => .ok (some i) s1
  | _ => .bad
theorem do_none (c : Cn K Wx X) : DO K O Wx X none tNoPart (mNoPart O) := ⟨c.hK, po_none, fun σ ρ H0 G H s Q F h => h none G H (.refl F.gh) F.ok rfl⟩
theorem do_some {e : Expr} {te : TE} {me : ME O} (he : DE K O Wx X e te me) : DO K O Wx X (some e) (tPart te) (mPart O me) := by
  refine ⟨he.hK, po_some he.pe, fun σ ρ H0 G H s Q F h => ?_⟩
  refine he.sn σ ρ H0 G H s _ F (pst_bind h fun dx s1 _ x G1 H1 t1 k1 r1 h1 => ?_)
  cases dx with
  | int i =>
    cases r1
    exact ⟨i, rfl, h1 (some i) G1 H1 (.refl t1.gh) k1 rfl⟩
  | _ => exact (show False from h1).elim
def rSlG (K : PySem.W.Frag) : V → Option Int → Option Int → Hp → VK → Prop := fun x lo hi H Q => rSlL K x lo hi H Q ∨ rSlA K x lo hi H Q
theorem sl_G (hK : X.K = K) : SlR X (rSlG K) := by subst hK; exact sl_list.or sl_tupA
def mSlice (O : Wo) (a : ME O) (l h : MO O) : ME O := fun ρ s => (a ρ s).bind fun x s1 => (l ρ s1).bind fun lo s2 => (h ρ s2).bind fun hi s3 => R.lift (dCut x lo hi) s3
theorem de_slice {e : Expr} {lo hi : Option Expr} {te : TE} {tl th : TO} {me : ME O} {ml mh : MO O} {p2 pos : Pos} (he : DE K O Wx X e te me) (hl : DO K O Wx X lo tl ml) (hh : DO K O Wx X hi th mh) :
    DE K O Wx X (.Subscript e (.Slice lo hi none p2) pos) (tSl (rSlG K) te tl th) (mSlice O me ml mh) := by
  refine ⟨he.hK, he.tk, pe_slice (sl_G he.hK) he.pe hl.pe hh.pe, fun σ ρ H0 G H s Q F h => ?_⟩
  refine he.sn σ ρ H0 G H s _ F (pst_bind h fun dx s1 _ x G1 H1 t1 k1 r1 h1 => ?_)
  have F1 := F.tr t1 k1
  refine hl.sn σ ρ H0 G1 H1 s1 _ F1 (pst_bind h1 fun l s2 _ l' G2 H2 t2 k2 r2 h2 => ?_)
  have F2 := F1.tr t2 k2
  subst r2
  refine hh.sn σ ρ H0 G2 H2 s2 _ F2 (pst_bind h2 fun u s3 _ u' G3 H3 t3 k3 r3 h3 => ?_)
  have F3 := F2.tr t3 k3
  subst r3
  obtain ⟨d, e4, q⟩ := pst_lift F3 h3
  have rx : Rep K G3 x dx := (r1.mono t2.gg).mono t3.gg
  unfold dCut at e4
  split at e4
  · cases e4
    cases rx with
    | lst hs r => exact .inl ⟨_, _, rfl, F3.gh.seq hs, fun p n => q _ _ _ (Tr0.new F3.gh n) (new_lst F3.gh n (r.cut _ _))⟩
  · cases e4
    cases rx with
    | tup hs r =>
      refine .inr ⟨_, _, rfl, sq_t F3.gh hs, fun z => ?_, fun z p n => q _ _ _ (Tr0.new F3.gh n) (new_tup F3.gh n (r.cut _ _))⟩
      rw [r.cut_whole z] at q
      exact q _ G3 H3 (.refl F3.gh) (.tup hs r)
  · cases e4
end
end Mr

namespace Mr
open PySem PySem.Spec PyProof.Rows L2
/-! ### statements -/
inductive RS (S : Type) where
  | nx (ρ : Ev) (s : S) | rt (d : D) (s : S) | bk (ρ : Ev) (s : S) | ct (ρ : Ev) (s : S) | err (c : Addr) (fs : List (Str × D)) (ρ : Ev) (s : S) | bad
abbrev MS (O : Wo) := Ev → O.S → RS O.S
/-- a body's frame: what holds of it, and how it came from the def's entry (G0, H0) -/
structure Fs (K : PySem.W.Frag) (O : Wo) (G0 H0 : Hp) (σ : L2.St) (ρ : Ev) (G H : Hp) (s : O.S) : Prop where
  fm : Fm K O H0 σ ρ G H s
  tr : Tr O.W G0 H0 G H
def PstS (K : PySem.W.Frag) (O : Wo) (Wx : WX) (G0 H0 G : Hp) (r : RS O.S) (Dn : Ends) : Prop :=
  match r with
  | .nx ρ s => ∀ σ G' H', Same G G' → Fs K O G0 H0 σ ρ G' H' s → Dn.nx σ H'
  | .bk ρ s => ∀ σ G' H', Same G G' → Fs K O G0 H0 σ ρ G' H' s → Dn.bk σ H'
  | .ct ρ s => ∀ σ G' H', Same G G' → Fs K O G0 H0 σ ρ G' H' s → Dn.ct σ H'
  | .rt d s => ∀ v G' H', Same G G' → Tr O.W G0 H0 G' H' → O.ok s H' → Rep K G' v d → Dn.rt v H'
  | .err c fs ρ s => ∀ σ dd xs G' H', Same G G' → Fs K O G0 H0 σ ρ G' H' s → H' dd = some (.xd xs) → ¬ O.W dd → RepF K G' xs fs → Wx (.ref c) (some dd) σ H'
  | .bad => False
def SndS (K : PySem.W.Frag) (O : Wo) (Wx : WX) (t : TS) (m : MS O) : Prop := ∀ G0 H0 σ ρ G H s Dn, Fs K O G0 H0 σ ρ G H s → PstS K O Wx G0 H0 G (m ρ s) Dn → t Dn σ H
structure DS (K : PySem.W.Frag) (O : Wo) (Wx : WX) (X : Cx) (e : Stmt) (t : TS) (m : MS O) : Prop where
  pe : PS X e t
  sn : SndS K O Wx t m
structure DB (K : PySem.W.Frag) (O : Wo) (Wx : WX) (X : Cx) (e : List Stmt) (t : TS) (m : MS O) : Prop where
  pe : PSs X e t
  sn : SndS K O Wx t m
/-- a body's context -/
structure Cs (K : PySem.W.Frag) (Wx : WX) (X : Cx) : Prop where
  cn : Cn K Wx X
  po : PassesOwn (model X.prog X.w) X.A X.env X.xe
  hc : X.calm = true
  nd : X.N.Nodup
section
variable {K : PySem.W.Frag} {O : Wo} {Wx : WX} {X : Cx} {G0 H0 G H G1 H1 : Hp} {σ : L2.St} {ρ : Ev} {s s1 : O.S}
theorem PstS.shift {r : RS O.S} {Dn : Ends} (e : Same G G1) (h : PstS K O Wx G0 H0 G r Dn) : PstS K O Wx G0 H0 G1 r Dn := by
  cases r with
  | nx ρ s => exact fun σ G' H' a b => h σ G' H' (e.trans a) b
  | bk ρ s => exact fun σ G' H' a b => h σ G' H' (e.trans a) b
  | ct ρ s => exact fun σ G' H' a b => h σ G' H' (e.trans a) b
  | rt d s => exact fun v G' H' a b => h v G' H' (e.trans a) b
  | err c fs ρ s => exact fun σ dd xs G' H' a b => h σ dd xs G' H' (e.trans a) b
  | bad => exact h
theorem Fs.go (f : Fs K O G0 H0 σ ρ G H s) (t : Tr O.W G H G1 H1) (k : O.ok s1 H1) : Fs K O G0 H0 σ ρ G1 H1 s1 := ⟨f.fm.tr t k, f.tr.trans t⟩
/-- an expression's outcome becomes a statement's -/
def toS {S α : Type} (r : R S α) (ρ : Ev) (f : α → S → RS S) : RS S := match r with
  | .ok a s => f a s
  | .err c fs s => .err c fs ρ s
  | .bad => .bad
theorem pst_toS {α β : Type} {rel : Hp → β → α → Prop} {r : R O.S α} {f : α → O.S → RS O.S} {Dn : Ends} {Q1 : β → Hp → Prop} (F : Fs K O G0 H0 σ ρ G H s) (h : PstS K O Wx G0 H0 G (toS r ρ f) Dn)
    (k : ∀ a s1, r = .ok a s1 → ∀ v G1 H1, Tr O.W G H G1 H1 → O.ok s1 H1 → rel G1 v a → PstS K O Wx G0 H0 G1 (f a s1) Dn → Q1 v H1) : Pst K O Wx σ G H rel r Q1 := by
  cases r with
  | ok d s' => exact fun v G' H' t' ko q => k d s' rfl v G' H' t' ko q (PstS.shift t'.gg h)
  | err c fs s' => exact fun dd xs G' H' t' ko e n q => h σ dd xs G' H' t'.gg (F.go t' ko) e n q
  | bad => exact h
@[simp] theorem toS_ok {α : Type} (a : α) (s : O.S) (ρ : Ev) (f : α → O.S → RS O.S) : toS (R.ok a s) ρ f = f a s := rfl
@[simp] theorem toS_err {α : Type} (c : Addr) (fs : List (Str × D)) (s : O.S) (ρ : Ev) (f : α → O.S → RS O.S) : toS (R.err c fs s) ρ f = .err c fs ρ s := rfl
@[simp] theorem toS_bad {α : Type} (ρ : Ev) (f : α → O.S → RS O.S) : toS R.bad ρ f = .bad := rfl
/-! ### blocks -/
def mNext (O : Wo) : MS O := fun ρ s => .nx ρ s
def seqS {S : Type} (r : RS S) (k : Ev → S → RS S) : RS S := match r with
  | .nx ρ1 s1 => k ρ1 s1
  | r => r
def mSeq (O : Wo) (a b : MS O) : MS O := fun ρ s => seqS (a ρ s) b
theorem db_nil : DB K O Wx X [] tNext (mNext O) := ⟨pss_nil, fun G0 H0 σ ρ G H s Dn F h => h σ G H (Same.refl _) F⟩
theorem db_one {st : Stmt} {t : TS} {m : MS O} (h : DS K O Wx X st t m) : DB K O Wx X [st] t m := ⟨pss_one h.pe, h.sn⟩
theorem db_cons {st : Stmt} {rest : List Stmt} {t u : TS} {m n : MS O} (h1 : DS K O Wx X st t m) (h2 : DB K O Wx X rest u n) : DB K O Wx X (st :: rest) (tSeq t u) (mSeq O m n) := by
  refine ⟨pss_cons h1.pe h2.pe, fun G0 H0 σ ρ G H s Dn F h => ?_⟩
  refine h1.sn G0 H0 σ ρ G H s _ F ?_
  unfold mSeq seqS at h
  revert h
  cases m ρ s with
  | nx ρ1 s1 => exact fun h σ' G' H' e F' => h2.sn G0 H0 σ' ρ1 G' H' s1 Dn F' (h.shift e)
  | bk ρ s => exact fun h => h
  | ct ρ s => exact fun h => h
  | rt d s => exact fun h => h
  | err c fs ρ s => exact fun h => h
  | bad => exact fun h => h
/-! ### small statements -/
def mPass (O : Wo) : MS O := fun ρ s => .nx ρ s
def mBrk (O : Wo) : MS O := fun ρ s => .bk ρ s
def mCnt (O : Wo) : MS O := fun ρ s => .ct ρ s
theorem ds_pass {pos : Pos} : DS K O Wx X (.Pass pos) tNext (mPass O) := ⟨ps_pass, fun G0 H0 σ ρ G H s Dn F h => h σ G H (Same.refl _) F⟩
theorem ds_break {pos : Pos} : DS K O Wx X (.Break pos) tBreak (mBrk O) := ⟨ps_break, fun G0 H0 σ ρ G H s Dn F h => h σ G H (Same.refl _) F⟩
theorem ds_continue {pos : Pos} : DS K O Wx X (.Continue pos) tCont (mCnt O) := ⟨ps_continue, fun G0 H0 σ ρ G H s Dn F h => h σ G H (Same.refl _) F⟩
def mDrop (O : Wo) (m : ME O) : MS O := fun ρ s => toS (m ρ s) ρ fun _ s1 => .nx ρ s1
theorem ds_expr {e : Expr} {te : TE} {me : ME O} {pos : Pos} (he : DE K O Wx X e te me) (hs : swapsWith e none pos.line X.env = pure false := by rfl) : DS K O Wx X (.Expr e pos) (tDrop te) (mDrop O me) := by
  refine ⟨ps_expr he.pe hs, fun G0 H0 σ ρ G H s Dn F h => ?_⟩
  exact he.sn σ ρ H0 G H s _ F.fm (pst_toS F h fun d s1 _ v G1 H1 t1 k1 r1 h1 => h1 σ G1 H1 (Same.refl _) (F.go t1 k1))
def mRet (O : Wo) (m : ME O) : MS O := fun ρ s => toS (m ρ s) ρ fun d s1 => .rt d s1
def mRetN (O : Wo) : MS O := fun ρ s => .rt .non s
theorem ds_ret {e : Expr} {te : TE} {me : ME O} {pos : Pos} (he : DE K O Wx X e te me) : DS K O Wx X (.Return (some e) pos) (tRet te) (mRet O me) := by
  refine ⟨ps_ret he.pe, fun G0 H0 σ ρ G H s Dn F h => ?_⟩
  exact he.sn σ ρ H0 G H s _ F.fm (pst_toS F h fun d s1 _ v G1 H1 t1 k1 r1 h1 => h1 v G1 H1 (Same.refl _) (F.tr.trans t1) k1 r1)
theorem ds_retN {pos : Pos} : DS K O Wx X (.Return none pos) tRetN (mRetN O) := ⟨ps_retN, fun G0 H0 σ ρ G H s Dn F h => h .non G H (Same.refl _) F.tr F.fm.ok .non⟩
def mIfS (O : Wo) (c : MT O) (a b : MS O) : MS O := fun ρ s => toS (c ρ s) ρ fun x s1 => if x = true then a ρ s1 else b ρ s1
theorem ds_if {c : Expr} {a b : List Stmt} {tc : TT} {ta tb : TS} {mc : MT O} {ma mb : MS O} {pos : Pos} (hc : DT K O Wx X c tc mc) (ha : DB K O Wx X a ta ma) (hb : DB K O Wx X b tb mb) : DS K O Wx X (.If c a b pos) (tIfS tc ta tb) (mIfS O mc ma mb) := by
  refine ⟨ps_if hc.pe ha.pe hb.pe, fun G0 H0 σ ρ G H s Dn F h => ?_⟩
  refine hc.sn σ ρ H0 G H s _ F.fm (pst_toS F h fun d s1 _ v G1 H1 t1 k1 r1 h1 => ?_)
  subst r1
  cases v with
  | true => exact ha.sn G0 H0 σ ρ G1 H1 s1 Dn (F.go t1 k1) h1
  | false => exact hb.sn G0 H0 σ ρ G1 H1 s1 Dn (F.go t1 k1) h1
/-! ### targets -/
/-- a target: what it does to the slots; is: the slots that it sets -/
def SndG (K : PySem.W.Frag) (O : Wo) (g : TG) (f : D → Ev → Option Ev) (is : List Nat) : Prop := ∀ H0 σ ρ G H (s : O.S) v d ρ' Q, Fm K O H0 σ ρ G H s → Rep K G v d → f d ρ = some ρ' →
  (∀ σ', Fm K O H0 σ' ρ' G H s → (∀ vs, (∀ i ∈ is, i ∈ vs) → wipe σ' vs = wipe σ vs) → Q σ' H) → g v σ H Q
structure DG (K : PySem.W.Frag) (O : Wo) (X : Cx) (e : Expr) (g : TG) (f : D → Ev → Option Ev) (is : List Nat) : Prop where
  pe : PG X e g
  sn : SndG K O g f is
theorem wipe_set {σ : L2.St} {i : Nat} {o : Option V} : ∀ {vs : List Nat}, i ∈ vs → wipe (σ.set i o) vs = wipe σ vs
  | [], h => by cases h
  | v :: vs, h => by
    by_cases hv : i = v
    · subst hv
      unfold wipe
      by_cases hm : i ∈ vs
      · rw [wipe_set hm]
      · have key : ∀ (ws : List Nat), i ∉ ws → wipe (σ.set i o) ws = (wipe σ ws).set i o := by
          intro ws
          induction ws with
          | nil => intro _; rfl
          | cons w ws ih =>
            intro hw
            have h1 : i ≠ w := fun e => hw (by rw [e]; exact List.mem_cons_self)
            unfold wipe
            rw [ih fun e => hw (List.mem_cons_of_mem _ e), List.set_comm _ _ h1]
        rw [key vs hm, List.set_set]
    · have hm : i ∈ vs := by
        rcases List.mem_cons.mp h with e | e
        · exact absurd e hv
        · exact e
      unfold wipe
      rw [wipe_set hm]
def fName (i : Nat) : D → Ev → Option Ev := fun d ρ => some (ρ.set i (.sh d))
theorem dg_name (i : Nat) {x : Str} {pos : Pos} (hN : X.N.Nodup) (hi : X.N[i]? = some x := by rfl) (hx : Loc X.env.scope x := by first | exact Or.inl rfl | exact Or.inr rfl) (hf : X.fn x = true ∨ X.env.scope.names.lookup x = some .local := by first | exact .inl rfl | exact .inr rfl | assumption) :
    DG K O X (.Name x pos) (gName i) (fName i) [i] := by
  refine ⟨pg_name hN hi hx hf, fun H0 σ ρ G H s v d ρ' Q F r e q => ?_⟩
  cases e
  exact q _ (F.set r) fun vs hv => wipe_set (hv i (by simp))
def SndGs (K : PySem.W.Frag) (O : Wo) (g : TGs) (f : List D → Ev → Option Ev) (is : List Nat) : Prop := ∀ H0 σ ρ G H (s : O.S) v d ρ' Q, Fm K O H0 σ ρ G H s → Reps K G v d → f d ρ = some ρ' →
  (∀ σ', Fm K O H0 σ' ρ' G H s → (∀ vs, (∀ i ∈ is, i ∈ vs) → wipe σ' vs = wipe σ vs) → Q σ' H) → g v σ H Q
structure DGs (K : PySem.W.Frag) (O : Wo) (X : Cx) (e : List Expr) (g : TGs) (f : List D → Ev → Option Ev) (is : List Nat) : Prop where
  pe : PGs X e g
  sn : SndGs K O g f is
def fNil : List D → Ev → Option Ev
  | [], ρ => some ρ
  | _ :: _, _ => none
def fCons (f : D → Ev → Option Ev) (g : List D → Ev → Option Ev) : List D → Ev → Option Ev
  | [], _ => none
  | d :: ds, ρ => (f d ρ).bind fun ρ1 => g ds ρ1
theorem dgs_nil : DGs K O X [] gNil fNil [] := by
  refine ⟨pgs_nil, fun H0 σ ρ G H s v d ρ' Q F r e q => ?_⟩
  cases r with
  | nil => cases e; exact ⟨rfl, q σ F fun _ _ => rfl⟩
  | cons _ _ => cases e
theorem dgs_cons {e : Expr} {es : List Expr} {t : TG} {u : TGs} {f : D → Ev → Option Ev} {g : List D → Ev → Option Ev} {is js : List Nat} (h1 : DG K O X e t f is) (h2 : DGs K O X es u g js)
    (hs : (assignEach (e :: es) X.env).map (·.2) = assign e X.env :: (assignEach es X.env).map (·.2) := by rfl) : DGs K O X (e :: es) (gCons t u) (fCons f g) (is ++ js) := by
  refine ⟨pgs_cons h1.pe h2.pe hs, fun H0 σ ρ G H s v d ρ' Q F r e q => ?_⟩
  cases r with
  | nil => cases e
  | @cons v d vs ds r rr =>
    simp only [fCons, Option.bind_eq_some_iff] at e
    obtain ⟨ρ1, e1, e2⟩ := e
    refine ⟨v, vs, rfl, h1.sn H0 σ ρ G H s v d ρ1 _ F r e1 fun σ1 F1 w1 => ?_⟩
    exact h2.sn H0 σ1 ρ1 G H s vs ds ρ' _ F1 rr e2 fun σ2 F2 w2 => q σ2 F2 fun ws hw => by
      rw [w2 ws fun i hi => hw i (List.mem_append_right _ hi), w1 ws fun i hi => hw i (List.mem_append_left _ hi)]
def fTup (n : Nat) (g : List D → Ev → Option Ev) : D → Ev → Option Ev
  | .tup xs, ρ => if xs.length = n then g xs ρ else none
  | _, _ => none
theorem dg_tup {es : List Expr} {k : Nat} {t : TGs} {g : List D → Ev → Option Ev} {is : List Nat} {n : Nat} {pos : Pos} (hK : X.K = K) (hc : X.calm = true) (h : DGs K O X es t g is)
    (hn : (assignEach es X.env).length = n := by rfl) (hst : (assignEach es X.env).findIdx? (·.1) = none := by rfl) : DG K O X (.Tuple es k pos) (gTup K n t) (fTup n g) is := by
  subst hK
  refine ⟨pg_tup hc h.pe hn hst, fun H0 σ ρ G H s v d ρ' Q F r e q => ?_⟩
  cases r with
  | tup hs r =>
    simp only [fTup] at e
    split at e
    · rename_i hl
      exact ⟨_, _, rfl, sq_t F.gh hs, r.length.trans hl, h.sn H0 σ ρ G H s _ _ ρ' _ F r e q⟩
    · cases e
  | _ => cases e
def mAsg (O : Wo) (m : ME O) (f : D → Ev → Option Ev) : MS O := fun ρ s => toS (m ρ s) ρ fun d s1 => match f d ρ with
  | some ρ1 => .nx ρ1 s1
  | none => .bad
theorem snd_asg {te : TE} {me : ME O} {g : TG} {f : D → Ev → Option Ev} {is : List Nat} (he : SndE K O Wx te me) (hg : SndG K O g f is) : SndS K O Wx (tAsg te g) (mAsg O me f) := by
  intro G0 H0 σ ρ G H s Dn F h
  refine he σ ρ H0 G H s _ F.fm (pst_toS F h fun d s1 _ v G1 H1 t1 k1 r1 h1 => ?_)
  have F1 := F.go t1 k1
  cases e : f d ρ with
  | none => rw [e] at h1; exact (show False from h1).elim
  | some ρ1 =>
    rw [e] at h1
    exact hg H0 σ ρ G1 H1 s1 v d ρ1 _ F1.fm r1 e fun σ' F' _ => h1 σ' G1 H1 (Same.refl _) ⟨F', F1.tr⟩
theorem ds_set (i : Nat) {x : Str} {e : Expr} {te : TE} {me : ME O} {pos pos' : Pos} (hN : X.N.Nodup) (he : DE K O Wx X e te me) (hi : X.N[i]? = some x := by rfl) (hx : Loc X.env.scope x := by first | exact Or.inl rfl | exact Or.inr rfl) (hs : swapsWith e (some (.Name x pos')) pos.line X.env = pure false := by rfl)
    (hf : X.fn x = true ∨ X.env.scope.names.lookup x = some .local := by first | exact .inl rfl | exact .inr rfl | assumption) : DS K O Wx X (.Assign [.Name x pos'] e pos) (tAsg te (gName i)) (mAsg O me (fName i)) :=
  ⟨ps_set hN hi hx he.pe hs hf, snd_asg he.sn (dg_name (K := K) (O := O) (X := X) (pos := pos') i hN hi hx hf).sn⟩
theorem ds_asg {tg e : Expr} {te : TE} {me : ME O} {g : TG} {f : D → Ev → Option Ev} {is : List Nat} {pos : Pos} (he : DE K O Wx X e te me) (hg : DG K O X tg g f is) (hs : swapsWithSole [tg] e pos.line X.env = pure false := by rfl) (hw : swappedStores [tg] e X.env = pure none := by rfl)
    (h1 : (assignEach [tg] X.env).map (·.2) = [assign tg X.env] := by rfl) : DS K O Wx X (.Assign [tg] e pos) (tAsg te g) (mAsg O me f) := ⟨ps_asg he.pe hg.pe hs hw h1, snd_asg he.sn hg.sn⟩
/-- a, b = x, y -/
def mPar (O : Wo) (i j : Nat) (m : MA O) : MS O := fun ρ s => toS (m ρ s) ρ fun ds s1 => match ds with
  | [a, b] => .nx ((ρ.set i (.sh a)).set j (.sh b)) s1
  | _ => .bad
theorem ds_par (i j : Nat) {x y : Str} {a b : Expr} {ta : TA} {ma : MA O} {px py pt pos : Pos} {kt k2 pt2} (c : Cs K Wx X) (ha : DA K O Wx X [a, b] ta ma) (hi : X.N[i]? = some x := by rfl) (hj : X.N[j]? = some y := by rfl) (hij : i ≠ j := by decide)
    (hx : X.env.scope.names.lookup x = some .local := by rfl) (hy : X.env.scope.names.lookup y = some .local := by rfl)
    (hw : swappedStores [.Tuple [.Name x px, .Name y py] kt pt] (.Tuple [a, b] k2 pt2) X.env = pure (some [x, y]) := by rfl)
    (hs : swapsWithSole [.Tuple [.Name x px, .Name y py] kt pt] (.Tuple [a, b] k2 pt2) pos.line X.env = pure false := by rfl) :
    DS K O Wx X (.Assign [.Tuple [.Name x px, .Name y py] kt pt] (.Tuple [a, b] k2 pt2) pos) (tPar i j ta) (mPar O i j ma) := by
  refine ⟨ps_par c.hc c.nd hi hj hij hx hy ha.pe hw hs, fun G0 H0 σ ρ G H s Dn F h => ?_⟩
  refine ha.sn σ ρ H0 G H s _ F.fm (pst_toS F h fun ds s1 _ v G1 H1 t1 k1 r1 h1 => ?_)
  have F1 := F.go t1 k1
  cases r1 with
  | nil => exact (show False from h1).elim
  | cons r1 r2 =>
    cases r2 with
    | nil => exact (show False from h1).elim
    | cons r2 r3 =>
      cases r3 with
      | nil => exact ⟨_, _, rfl, h1 _ G1 H1 (Same.refl _) ⟨(F1.fm.set r1).set r2, F1.tr⟩⟩
      | cons _ _ => exact (show False from h1).elim
/-- name op= e -/
def VIp (K : PySem.W.Frag) (r : TIp) (f : D → D → Option D) : Prop := VOp K r f
def mAug (O : Wo) (i : Nat) (f : D → D → Option D) (m : ME O) : MS O := fun ρ s => match ρ[i]? with
  | some (.sh x) => toS (m ρ s) ρ fun y s1 => match f x y with
    | some z => .nx (ρ.set i (.sh z)) s1
    | none => .bad
  | _ => .bad
theorem ds_aug (i : Nat) {x : Str} {e : Expr} {te : TE} {me : ME O} {op : Operator} {ti : TIp} {f : D → D → Option D} {pos pos' : Pos} (hN : X.N.Nodup) (ho : PIp X op ti) (hv : VOp K ti f) (he : DE K O Wx X e te me) (hi : X.N[i]? = some x := by rfl) (hx : Loc X.env.scope x := by first | exact Or.inl rfl | exact Or.inr rfl)
    (hf : X.fn x = true ∨ X.env.scope.names.lookup x = some .local := by first | exact .inl rfl | exact .inr rfl | assumption) : DS K O Wx X (.AugAssign (.Name x pos') op e pos) (tAug i te ti) (mAug O i f me) := by
  refine ⟨ps_aug hN hi hx he.pe ho hf, fun G0 H0 σ ρ G H s Dn F h => ?_⟩
  unfold mAug at h
  split at h
  · rename_i dx e1
    obtain ⟨v, ev, r⟩ := F.fm.get e1
    refine ⟨v, ev, he.sn σ ρ H0 G H s _ F.fm (pst_toS F h fun d s1 _ y G1 H1 t1 k1 r1 h1 => ?_)⟩
    have F1 := F.go t1 k1
    cases e2 : f dx d with
    | none => rw [e2] at h1; exact (show False from h1).elim
    | some z =>
      rw [e2] at h1
      refine hv G1 H1 v y dx d z _ F1.fm.gh (r.mono t1.gg) r1 e2 fun w G2 H2 t2 r2 => ?_
      have F2 := F1.go t2.up (F1.fm.keepW t2)
      exact h1 _ G2 H2 t2.gg ⟨F2.fm.set r2, F2.tr⟩
  · exact h.elim
/-! ### what is walked -/
/-- the iterator J gives the items, one by one -/
def ItOk (K : PySem.W.Frag) (J : It) (G : Hp) (items : List D) : Prop := ∀ G1 H, Same G G1 → Same G1 H → ∀ i : Nat,
  (∀ d, items[i]? = some d → J.go i H ∧ ∀ x H', J.yld i H x H' → ∃ G2, Tr0 G1 H G2 H' ∧ Rep K G2 x d) ∧ (items.length ≤ i → J.stop i H)
abbrev MI (O : Wo) := Ev → O.S → R O.S (List D)
def SndI (K : PySem.W.Frag) (O : Wo) (Wx : WX) (w : TI) (m : MI O) : Prop := ∀ σ ρ H0 G H s Q, Fm K O H0 σ ρ G H s → Pst K O Wx σ G H (fun G' J items => ItOk K J G' items) (m ρ s) Q → w σ H Q
structure DI (K : PySem.W.Frag) (O : Wo) (Wx : WX) (X : Cx) (tg e : Expr) (w : TI) (m : MI O) : Prop where
  pe : PI X tg e w
  sn : SndI K O Wx w m
theorem it_list {a : Addr} {vs : List V} {ds : List D} (hs : SqL K G a vs) (r : Reps K G vs ds) : ItOk K (Itl K a) G ds := fun G1 H e1 e2 i => by
  have h1 : SqL K H a vs := e2.seq (e1.seq hs)
  refine ⟨fun d hd => ?_, fun hl => ⟨vs, h1, by rw [r.length]; exact hl⟩⟩
  obtain ⟨v, hv, rv⟩ := r.get' hd
  refine ⟨⟨vs, v, h1, hv⟩, fun x H' y => ?_⟩
  obtain ⟨e, y⟩ := y
  subst e
  have := y vs h1
  rw [hv] at this
  cases this
  exact ⟨G1, .refl e2, rv.mono e1⟩
theorem it_tup {a : Addr} {vs : List V} {ds : List D} (hs : SqT K G a vs) (r : Reps K G vs ds) : ItOk K (Itt K a) G ds := fun G1 H e1 e2 i => by
  have h1 : SqT K H a vs := sq_t e2 (sq_t e1 hs)
  refine ⟨fun d hd => ?_, fun hl => ⟨vs, h1, by rw [r.length]; exact hl⟩⟩
  obtain ⟨v, hv, rv⟩ := r.get' hd
  refine ⟨⟨vs, v, h1, hv⟩, fun x H' y => ?_⟩
  obtain ⟨e, y⟩ := y
  subst e
  have := y vs h1
  rw [hv] at this
  cases this
  exact ⟨G1, .refl e2, rv.mono e1⟩
/-- the ints lo, lo + 1, .., n of them -/
def rangeD (lo : Int) (n : Nat) : List D := (List.range n).map fun (i : Nat) => .int (lo + (i : Int))
theorem it_range {lo : Int} {n : Nat} : ItOk K (Itr lo n) G (rangeD lo n) := fun G1 H e1 e2 i => by
  unfold rangeD
  refine ⟨fun d hd => ?_, fun hl => show n ≤ i by simpa using hl⟩
  rw [List.getElem?_map, Option.map_eq_some_iff] at hd
  obtain ⟨j, hj, rfl⟩ := hd
  obtain ⟨h1, h2⟩ := List.getElem?_eq_some_iff.mp hj
  rw [List.length_range] at h1
  rw [List.getElem_range] at h2
  subst h2
  refine ⟨h1, fun x H' y => ?_⟩
  obtain ⟨e, y⟩ := y
  subst e y
  exact ⟨G1, .refl e2, .int _⟩
def asList : D → Option (List D)
  | .lst xs => some xs
  | _ => none
def asTup : D → Option (List D)
  | .tup xs => some xs
  | _ => none
def mItL (O : Wo) (m : ME O) : MI O := fun ρ s => (m ρ s).bind fun x s1 => R.lift (asList x) s1
def mItT (O : Wo) (m : ME O) : MI O := fun ρ s => (m ρ s).bind fun x s1 => R.lift (asTup x) s1
theorem di_list {tg e : Expr} {te : TE} {me : ME O} (he : DE K O Wx X e te me) : DI K O Wx X tg e (iList K te) (mItL O me) := by
  refine ⟨by have := he.hK; subst this; exact pi_list he.pe, fun σ ρ H0 G H s Q F h => ?_⟩
  refine he.sn σ ρ H0 G H s _ F (pst_bind h fun dx s1 _ x G1 H1 t1 k1 r1 h1 => ?_)
  cases r1 with
  | lst hs r => exact ⟨_, rfl, ⟨_, t1.gh.seq hs⟩, h1 _ G1 H1 (.refl t1.gh) k1 (it_list hs r)⟩
  | _ => exact (show False from h1).elim
theorem di_tup {tg e : Expr} {te : TE} {me : ME O} (he : DE K O Wx X e te me) : DI K O Wx X tg e (iTup K te) (mItT O me) := by
  refine ⟨by have := he.hK; subst this; exact pi_tup he.pe, fun σ ρ H0 G H s Q F h => ?_⟩
  refine he.sn σ ρ H0 G H s _ F (pst_bind h fun dx s1 _ x G1 H1 t1 k1 r1 h1 => ?_)
  cases r1 with
  | tup hs r => exact ⟨_, rfl, ⟨_, sq_t t1.gh hs⟩, h1 _ G1 H1 (.refl t1.gh) k1 (it_tup hs r)⟩
  | _ => exact (show False from h1).elim
def mRng1 (O : Wo) (m : MA O) : MI O := fun ρ s => (m ρ s).bind fun xs s1 => match xs with
  | [.int j] => if j ≤ 100000 ∧ -100000 ≤ j then .ok (rangeD 0 j.toNat) s1 else .bad
  | _ => .bad
def mRng2 (O : Wo) (m : MA O) : MI O := fun ρ s => (m ρ s).bind fun xs s1 => match xs with
  | [.int i, .int j] => if (j ≤ 100000 ∧ -100000 ≤ j) ∧ i ≤ 100000 ∧ -100000 ≤ i then .ok (rangeD i (j - i).toNat) s1 else .bad
  | _ => .bad
theorem di_range1 {tg a : Expr} {ta : TA} {ma : MA O} {p pos : Pos} (hm : X.mg "range" = none) (ha : DA K O Wx X [a] ta ma) (hg : Gl X "range" := by rfl) (hs : starEach [a] X.env = [(false, eval a X.env)] := by rfl) : DI K O Wx X tg (.Call (.Name "range" p) [a] [] pos) (iRng1 ta) (mRng1 O ma) := by
  refine ⟨pi_range1 hg hm ha.pe hs, fun σ ρ H0 G H s Q F h => ?_⟩
  refine ha.sn σ ρ H0 G H s _ F (pst_bind h fun ds s1 _ x G1 H1 t1 k1 r1 h1 => ?_)
  split at h1
  · rename_i j
    cases r1 with
    | cons r1 r2 =>
      cases r2
      cases r1
      split at h1
      · rename_i hj
        exact ⟨_, rfl, by omega, by omega, h1 _ G1 H1 (.refl t1.gh) k1 it_range⟩
      · exact (show False from h1).elim
  · exact (show False from h1).elim
theorem di_range2 {tg a b : Expr} {ta : TA} {ma : MA O} {p pos : Pos} (hm : X.mg "range" = none) (ha : DA K O Wx X [a, b] ta ma) (hg : Gl X "range" := by rfl) (hs : starEach [a, b] X.env = [(false, eval a X.env), (false, eval b X.env)] := by rfl) (hs2 : starEach [b] X.env = [(false, eval b X.env)] := by rfl) :
    DI K O Wx X tg (.Call (.Name "range" p) [a, b] [] pos) (iRng2 ta) (mRng2 O ma) := by
  refine ⟨pi_range2 hg hm ha.pe hs hs2, fun σ ρ H0 G H s Q F h => ?_⟩
  refine ha.sn σ ρ H0 G H s _ F (pst_bind h fun ds s1 _ x G1 H1 t1 k1 r1 h1 => ?_)
  split at h1
  · rename_i i j
    cases r1 with
    | cons r1 r2 =>
      cases r2 with
      | cons r2 r3 =>
        cases r3
        cases r1
        cases r2
        split at h1
        · rename_i hj
          exact ⟨_, _, rfl, ⟨by omega, by omega, by omega, by omega⟩, h1 _ G1 H1 (.refl t1.gh) k1 it_range⟩
        · exact (show False from h1).elim
  · exact (show False from h1).elim
/-! ### for -/
def forL (O : Wo) (f : D → Ev → Option Ev) (mb : MS O) : List D → MS O
  | [], ρ, s => .nx ρ s
  | d :: ds, ρ, s => match f d ρ with
    | none => .bad
    | some ρ1 => match mb ρ1 s with
      | .nx ρ2 s2 => forL O f mb ds ρ2 s2
      | .ct ρ2 s2 => forL O f mb ds ρ2 s2
      | .bk ρ2 s2 => .nx ρ2 s2
      | r => r
def mFor (O : Wo) (mi : MI O) (f : D → Ev → Option Ev) (mb : MS O) : MS O := fun ρ s => toS (mi ρ s) ρ fun items s1 => forL O f mb items ρ s1
theorem ds_for {tg iter : Expr} {body : List Stmt} {wi : TI} {g : TG} {tb : TS} {mi : MI O} {f : D → Ev → Option Ev} {is : List Nat} {mb : MS O} {pos : Pos} (c : Cs K Wx X) (hi : DI K O Wx X tg iter wi mi) (hg : DG K O X tg g f is) (hb : DB K O Wx X body tb mb)
    (hs : ∀ x, foldedSetIterable iter X.env x = pure x := by intro _; rfl) : DS K O Wx X (.For tg iter body [] pos) (tFor wi g tb) (mFor O mi f mb) := by
  refine ⟨ps_for c.po c.hc hi.pe hg.pe hb.pe hs, fun G0 H0 σ ρ G H s Dn F h => ?_⟩
  refine hi.sn σ ρ H0 G H s _ F.fm (pst_toS F h fun items s1 _ J G1 H1 t1 k1 ok h1 => ?_)
  refine ⟨fun i m σ' H' => ∃ ρ' G' s', m = (items.drop i).length ∧ Same G1 G' ∧ Fs K O G0 H0 σ' ρ' G' H' s' ∧ PstS K O Wx G0 H0 G' (forL O f mb (items.drop i) ρ' s') Dn, ⟨items.length, ρ, G1, s1, by simp, Same.refl _, F.go t1 k1, by simpa using h1⟩, ?_⟩
  rintro i m σ' H' ⟨ρ', G', s', rfl, e1, F', h'⟩
  obtain ⟨ok1, ok2⟩ := ok G' H' e1 F'.fm.gh i
  cases hd : items.drop i with
  | nil =>
    rw [hd] at h'
    exact .inl ⟨ok2 (by simpa using hd), h' σ' G' H' (Same.refl _) F'⟩
  | cons d ds =>
    have hlt : i < items.length := by
      by_cases z : i < items.length
      · exact z
      · rw [List.drop_eq_nil_of_le (by omega)] at hd; cases hd
    have hi? : items[i]? = some d := by
      have := List.drop_eq_getElem_cons hlt
      rw [hd] at this
      injection this with a b
      rw [List.getElem?_eq_getElem hlt, a]
    have hds : items.drop (i + 1) = ds := by
      have := List.drop_eq_getElem_cons hlt
      rw [hd] at this
      injection this with a b
      exact b.symm
    obtain ⟨go, yl⟩ := ok1 d hi?
    rw [hd] at h'
    refine .inr ⟨go, fun σ2 H2 => ∃ ρ2 G2 s2, Same G1 G2 ∧ Fs K O G0 H0 σ2 ρ2 G2 H2 s2 ∧ PstS K O Wx G0 H0 G2 (forL O f mb ds ρ2 s2) Dn, ?_, fun x H2 y => ?_⟩
    · rintro σ2 H2 ⟨ρ2, G2, s2, a1, a2, a3⟩
      exact ⟨ds.length, by simp, ρ2, G2, s2, by rw [hds], a1, a2, by rw [hds]; exact a3⟩
    · obtain ⟨G2, t2, r2⟩ := yl x H2 y
      have F2 := F'.go t2.up (F'.fm.keepW t2)
      unfold forL at h'
      cases ef : f d ρ' with
      | none => rw [ef] at h'; exact (show False from h').elim
      | some ρ1 =>
        rw [ef] at h'
        refine hg.sn H0 σ' ρ' G2 H2 s' x d ρ1 _ F2.fm r2 ef fun σ3 F3 _ => ?_
        refine hb.sn G0 H0 σ3 ρ1 G2 H2 s' _ ⟨F3, F2.tr⟩ ?_
        have h2 := PstS.shift t2.gg h'
        revert h2
        dsimp only
        cases mb ρ1 s' with
        | nx ρ2 s2 => exact fun h2 σ4 G4 H4 a b => ⟨ρ2, G4, s2, (e1.trans t2.gg).trans a, b, h2.shift a⟩
        | ct ρ2 s2 => exact fun h2 σ4 G4 H4 a b => ⟨ρ2, G4, s2, (e1.trans t2.gg).trans a, b, h2.shift a⟩
        | bk ρ2 s2 => exact fun h2 => h2
        | rt d s => exact fun h2 => h2
        | err c fs ρ s => exact fun h2 => h2
        | bad => exact fun h2 => h2
/-! ### while, with as many turns as fu says -/
def whileL (O : Wo) (mc : MT O) (mb : MS O) : Nat → MS O
  | 0, _, _ => .bad
  | n + 1, ρ, s => toS (mc ρ s) ρ fun b s1 => if b = true then match mb ρ s1 with
      | .nx ρ2 s2 => whileL O mc mb n ρ2 s2
      | .ct ρ2 s2 => whileL O mc mb n ρ2 s2
      | .bk ρ2 s2 => .nx ρ2 s2
      | r => r
    else .nx ρ s1
def mWhile (O : Wo) (fu : Ev → O.S → Nat) (mc : MT O) (mb : MS O) : MS O := fun ρ s => whileL O mc mb (fu ρ s) ρ s
theorem ds_while (fu : Ev → O.S → Nat) {cnd : Expr} {body : List Stmt} {tc : TT} {tb : TS} {mc : MT O} {mb : MS O} {pos : Pos} (c : Cs K Wx X) (hc : DT K O Wx X cnd tc mc) (hb : DB K O Wx X body tb mb) : DS K O Wx X (.While cnd body [] pos) (tWhile tc tb) (mWhile O fu mc mb) := by
  refine ⟨ps_while c.po hc.pe hb.pe, fun G0 H0 σ ρ G H s Dn F h => ?_⟩
  refine ⟨fun m σ' H' => ∃ ρ' G' s', Fs K O G0 H0 σ' ρ' G' H' s' ∧ PstS K O Wx G0 H0 G' (whileL O mc mb m ρ' s') Dn, ⟨fu ρ s, ρ, G, s, F, h⟩, ?_⟩
  rintro m σ' H' ⟨ρ', G', s', F', h'⟩
  cases m with
  | zero => exact (show False from h').elim
  | succ n =>
    unfold whileL at h'
    refine hc.sn σ' ρ' H0 G' H' s' _ F'.fm (pst_toS F' h' fun b s1 _ v G1 H1 t1 k1 r1 h1 => ?_)
    subst r1
    have F1 := F'.go t1 k1
    cases v with
    | false => exact h1 σ' G1 H1 (Same.refl _) F1
    | true =>
      refine ⟨fun σ2 H2 => ∃ ρ2 G2 s2, Fs K O G0 H0 σ2 ρ2 G2 H2 s2 ∧ PstS K O Wx G0 H0 G2 (whileL O mc mb n ρ2 s2) Dn, ?_, ?_⟩
      · rintro σ2 H2 ⟨ρ2, G2, s2, a2, a3⟩
        exact ⟨n, by omega, ρ2, G2, s2, a2, a3⟩
      · refine hb.sn G0 H0 σ' ρ' G1 H1 s1 _ F1 ?_
        revert h1
        simp only [if_true]
        cases mb ρ' s1 with
        | nx ρ2 s2 => exact fun h2 σ4 G4 H4 a b => ⟨ρ2, G4, s2, b, h2.shift a⟩
        | ct ρ2 s2 => exact fun h2 σ4 G4 H4 a b => ⟨ρ2, G4, s2, b, h2.shift a⟩
        | bk ρ2 s2 => exact fun h2 => h2
        | rt d s => exact fun h2 => h2
        | err c fs ρ s => exact fun h2 => h2
        | bad => exact fun h2 => h2
end
/-! ### a def -/
def runF (O : Wo) (n : Nat) (m : MS O) : List D → O.S → R O.S D := fun ds s => match m (ds.map .sh ++ List.replicate (n - ds.length) .no) s with
  | .nx _ s1 => .ok .non s1
  | .rt d s1 => .ok d s1
  | .err c fs _ s1 => .err c fs s1
  | _ => .bad
section
variable {P : Program} {w : World} {K : PySem.W.Frag} {mg : Str → Option Value} {base : Heap} {O : Wo}
theorem start_fm {H0 G H : Hp} {s : O.S} (g : Same G H) (wg : ∀ a, O.W a → G a = none) (ok : O.ok s H) {n : Nat} {N : List Str} (hn : N.length = n) : ∀ {vs : List V} {ds : List D}, Reps K G vs ds → Fm K O H0 (L2.start N vs) (ds.map .sh ++ List.replicate (n - ds.length) .no) G H s := by
  intro vs ds r
  subst hn
  have hl := r.length
  refine ⟨g, wg, ok, by simp [L2.start, hl], fun i o x a b => ?_, fun i j p x y hij a b c => ?_⟩
  · unfold L2.start at a
    by_cases hi : i < vs.length
    · rw [List.getElem?_append_left (by simpa using hi), List.getElem?_map] at a
      rw [List.getElem?_append_left (by rw [List.length_map, ← hl]; exact hi), List.getElem?_map] at b
      rw [Option.map_eq_some_iff] at a b
      obtain ⟨v, ha, rfl⟩ := a
      obtain ⟨d, hb, rfl⟩ := b
      obtain ⟨d', h1, h2⟩ := r.get ha
      rw [hb] at h1
      cases h1
      exact ⟨v, rfl, h2⟩
    · rw [List.getElem?_append_right (by rw [List.length_map, ← hl]; omega)] at b
      have := List.mem_of_getElem? b
      rw [List.mem_replicate] at this
      rw [this.2]
      trivial
  · have hx : isOwn x = false := by
      have := List.mem_of_getElem? a
      rw [List.mem_append] at this
      rcases this with q | q
      · rw [List.mem_map] at q
        obtain ⟨d, _, rfl⟩ := q
        rfl
      · rw [List.mem_replicate] at q
        rw [q.2]
        rfl
    rw [hx] at c
    cases c
theorem fo_mk {x qual : Str} {st : Stmt} {f : Addr} {fd : FuncData} {N ps : List Str} {k : Nat} {m : MS O} (F : Fun K x qual st f fd) (S : FnScope N ps (defScope st)) (hg : mg x = some (.ref f)) (hb : Binds K fd ps [])
    (hbody : ∀ (cdv : Value) (A : Around) (outer : List Env) (s : Shared) (H : Hp) (E : XK), Room k (A.deeper (envOfC qual (defScope st) s.heap.objs.size f cdv)) →
      Cs K (fun cls d _ H => E cls d H) (cxOf (L2.CX P w) P w K mg base N qual (defScope st) f cdv A outer s H E) →
      ∃ t, DB K O (fun cls d _ H => E cls d H) (cxOf (L2.CX P w) P w K mg base N qual (defScope st) f cdv A outer s H E) (defBody st) t m) : Fo P w K mg base O (k + 1) x ps.length (runF O N.length m) := by
  refine ⟨f, fd, ps, F.okX S (fun vs H Q E h => h.1) (fun cdv A outer s H vs Q E hr h => ?_), hg, F.kp, hb⟩
  obtain ⟨hl, G, ds, s0, g, wg, ok, r, q⟩ := h
  have tk : Takes (cxOf (L2.CX P w) P w K mg base N qual (defScope st) f cdv A outer s H E) (fun cls d _ H => E cls d H) := takes_of rfl rfl rfl rfl
  obtain ⟨t, hd⟩ := hbody cdv A outer s H E hr ⟨⟨rfl, tk⟩, passes_of rfl, rfl, S.nd⟩
  refine ⟨t, hd.pe, hd.sn G H _ _ G H s0 _ ⟨start_fm g wg ok rfl r, .refl g⟩ ?_⟩
  unfold runF at q
  revert q
  cases m (ds.map .sh ++ List.replicate (N.length - ds.length) .no) s0 with
  | nx ρ s1 => exact fun q σ' G' H' e F' => q .non G' H' F'.tr F'.fm.ok .non
  | rt d s1 => exact fun q v G' H' e t' k' r' => q v G' H' t' k' r'
  | err c fs ρ s1 => exact fun q σ' dd xs G' H' e F' a b c' => q dd xs G' H' F'.tr F'.fm.ok a b c'
  | bk ρ s1 => exact fun q => q.elim
  | ct ρ s1 => exact fun q => q.elim
  | bad => exact fun q => q.elim
theorem Fo.imp {k n : Nat} {x : Str} {m m' : List D → O.S → R O.S D} (F : Fo P w K mg base O k x n m) (h : ∀ ds s, ds.length = n → m' ds s = .bad ∨ m ds s = m' ds s) : Fo P w K mg base O k x n m' := by
  obtain ⟨f, fd, ps, Fn, hm, kp, bi⟩ := F.ex
  refine ⟨f, fd, ps, Fn.imp fun vs H Q E q => ?_, hm, kp, bi⟩
  obtain ⟨hl, G, ds, s0, g, wg, ok, r, q⟩ := q
  refine ⟨hl, G, ds, s0, g, wg, ok, r, ?_⟩
  rcases h ds s0 (r.length.symm.trans hl) with e | e
  · rw [e] at q; exact q.elim
  · rw [e]; exact q
theorem Fo.mono {k j n : Nat} {x : Str} {m : List D → O.S → R O.S D} (F : Fo P w K mg base O k x n m) (h : k ≤ j) : Fo P w K mg base O j x n m := by
  obtain ⟨f, fd, ps, Fn, hm, kp, bi⟩ := F.ex
  exact ⟨f, fd, ps, Fn.mono h, hm, kp, bi⟩
end
end Mr

namespace Mr
open PySem PySem.Spec PyProof.Rows L2 RZ
section
variable {K : PySem.W.Frag} {O : Wo} {Wx : WX} {X : Cx} {G0 H0 G H G1 H1 : Hp} {σ : L2.St} {ρ : Ev} {s s1 : O.S}
/-! ### zip, enumerate, reversed -/
def zipD (xs ys : List D) : List D := (xs.zip ys).map fun p => .tup [p.1, p.2]
theorem zipD_at {xs ys : List D} {i : Nat} {d : D} (h : (zipD xs ys)[i]? = some d) : ∃ a b, xs[i]? = some a ∧ ys[i]? = some b ∧ d = .tup [a, b] := by
  unfold zipD at h
  rw [List.getElem?_map, Option.map_eq_some_iff] at h
  obtain ⟨p, hp, rfl⟩ := h
  rw [List.getElem?_zip_eq_some] at hp
  exact ⟨p.1, p.2, hp.1, hp.2, rfl⟩
theorem zipD_length (xs ys : List D) : (zipD xs ys).length = min xs.length ys.length := by simp [zipD]
theorem new_pair {H : Hp} {T : Addr} {x y : V} {a b : D} (g : Same G H) (n : H T = none) (ra : Rep K G x a) (rb : Rep K G y b) : Tr0 G H (upd G T (.tup [x, y])) (upd H T (.tup [x, y])) ∧ Rep K (upd G T (.tup [x, y])) (.ref T) (.tup [a, b]) :=
  ⟨Tr0.new g n, new_tup g n (.cons ra (.cons rb .nil))⟩
theorem it_zip {a b : Addr} {vs ws : List V} {ds es : List D} (hs : SqL K G a vs) (r : Reps K G vs ds) (hs2 : SqL K G b ws) (r2 : Reps K G ws es) : ItOk K (Itz K a b) G (zipD ds es) := fun G1 H e1 e2 i => by
  have h1 : SqL K H a vs := e2.seq (e1.seq hs)
  have h2 : SqL K H b ws := e2.seq (e1.seq hs2)
  refine ⟨fun d hd => ?_, fun hl => ⟨vs, ws, h1, h2, by rw [r.length, r2.length]; rw [zipD_length] at hl; omega⟩⟩
  obtain ⟨da, db, q1, q2, rfl⟩ := zipD_at hd
  obtain ⟨v, hv, rv⟩ := r.get' q1
  obtain ⟨w, hw, rw'⟩ := r2.get' q2
  refine ⟨⟨vs, ws, v, w, h1, h2, hv, hw⟩, fun x H' y => ?_⟩
  obtain ⟨T, p, q, rfl, nT, rfl, f1, f2⟩ := y
  have ep := f1 vs h1
  have eq := f2 ws h2
  rw [hv] at ep
  rw [hw] at eq
  cases ep
  cases eq
  obtain ⟨t, rr⟩ := new_pair e2 nT (rv.mono e1) (rw'.mono e1)
  exact ⟨_, t, rr⟩
theorem it_zipT {a b : Addr} {vs ws : List V} {ds es : List D} (hs : SqT K G a vs) (r : Reps K G vs ds) (hs2 : SqT K G b ws) (r2 : Reps K G ws es) : ItOk K (ItzT K a b) G (zipD ds es) := fun G1 H e1 e2 i => by
  have h1 : SqT K H a vs := sq_t e2 (sq_t e1 hs)
  have h2 : SqT K H b ws := sq_t e2 (sq_t e1 hs2)
  refine ⟨fun d hd => ?_, fun hl => ⟨vs, ws, h1, h2, by rw [r.length, r2.length]; rw [zipD_length] at hl; omega⟩⟩
  obtain ⟨da, db, q1, q2, rfl⟩ := zipD_at hd
  obtain ⟨v, hv, rv⟩ := r.get' q1
  obtain ⟨w, hw, rw'⟩ := r2.get' q2
  refine ⟨⟨vs, ws, v, w, h1, h2, hv, hw⟩, fun x H' y => ?_⟩
  obtain ⟨T, p, q, rfl, nT, rfl, f1, f2⟩ := y
  have ep := f1 vs h1
  have eq := f2 ws h2
  rw [hv] at ep
  rw [hw] at eq
  cases ep
  cases eq
  obtain ⟨t, rr⟩ := new_pair e2 nT (rv.mono e1) (rw'.mono e1)
  exact ⟨_, t, rr⟩
def dZip : List D → Option (List D)
  | [.lst xs, .lst ys] => some (zipD xs ys)
  | [.tup xs, .tup ys] => some (zipD xs ys)
  | _ => none
def mItA (O : Wo) (f : List D → Option (List D)) (m : MA O) : MI O := fun ρ s => (m ρ s).bind fun xs s1 => R.lift (f xs) s1
theorem di_zip {e e2 : Expr} {ta : TA} {ma : MA O} {p pos tpos : Pos} {elts : List Expr} {kk : Nat} (hm : X.mg "zip" = none) (ha : DA K O Wx X [e, e2] ta ma) (hg : Gl X "zip" := by rfl)
    (hs : starEach [e, e2] X.env = (false, eval e X.env) :: starEach [e2] X.env := by rfl) (hpl : (backTo pos (starEach [e2] X.env)).any (·.1) = false := by rfl) :
    DI K O Wx X (.Tuple elts kk tpos) (.Call (.Name "zip" p) [e, e2] [] pos) (iZipA K ta) (mItA O dZip ma) := by
  refine ⟨by have := ha.hK; subst this; exact pi_zipA hg hm ha.pe hs hpl, fun σ ρ H0 G H s Q F h => ?_⟩
  refine ha.sn σ ρ H0 G H s _ F (pst_bind h fun ds s1 _ x G1 H1 t1 k1 r1 h1 => ?_)
  cases e0 : dZip ds with
  | none => rw [e0] at h1; exact (show False from h1).elim
  | some its =>
    rw [e0] at h1
    unfold dZip at e0
    split at e0
    · cases e0
      cases r1 with
      | cons r1 r2 =>
        cases r2 with
        | cons r2 r3 =>
          cases r3
          cases r1 with
          | lst hs r1 =>
            cases r2 with
            | lst hs2 r2 => exact ⟨_, _, _, _, rfl, .inl ⟨t1.gh.seq hs, t1.gh.seq hs2, h1 _ G1 H1 (.refl t1.gh) k1 (it_zip hs r1 hs2 r2)⟩⟩
    · cases e0
      cases r1 with
      | cons r1 r2 =>
        cases r2 with
        | cons r2 r3 =>
          cases r3
          cases r1 with
          | tup hs r1 =>
            cases r2 with
            | tup hs2 r2 => exact ⟨_, _, _, _, rfl, .inr ⟨sq_t t1.gh hs, sq_t t1.gh hs2, h1 _ G1 H1 (.refl t1.gh) k1 (it_zipT hs r1 hs2 r2)⟩⟩
    · cases e0
def enumD (xs : List D) : List D := xs.zipIdx.map fun p => .tup [.int (p.2 : Int), p.1]
theorem it_enum {a : Addr} {vs : List V} {ds : List D} (hs : SqL K G a vs) (r : Reps K G vs ds) : ItOk K (Ite K a) G (enumD ds) := fun G1 H e1 e2 i => by
  have h1 : SqL K H a vs := e2.seq (e1.seq hs)
  refine ⟨fun d hd => ?_, fun hl => ⟨vs, h1, by rw [r.length]; simpa [enumD] using hl⟩⟩
  unfold enumD at hd
  rw [List.getElem?_map, Option.map_eq_some_iff] at hd
  obtain ⟨p, hp, rfl⟩ := hd
  rw [List.getElem?_zipIdx, Option.map_eq_some_iff] at hp
  obtain ⟨d0, hd0, rfl⟩ := hp
  obtain ⟨v, hv, rv⟩ := r.get' hd0
  refine ⟨⟨vs, v, h1, hv⟩, fun x H' y => ?_⟩
  obtain ⟨T, q, rfl, nT, rfl, f1⟩ := y
  have ep := f1 vs h1
  rw [hv] at ep
  cases ep
  have ei : ((0 + i : Nat) : Int) = (i : Int) := by omega
  obtain ⟨t, rr⟩ := new_pair (a := .int (i : Int)) e2 nT (.int (i : Int)) (rv.mono e1)
  refine ⟨_, t, ?_⟩
  dsimp only
  rw [ei]
  exact rr
def dEnum : List D → Option (List D)
  | [.lst xs] => some (enumD xs)
  | _ => none
theorem di_enum {e : Expr} {ta : TA} {ma : MA O} {p pos tpos : Pos} {elts : List Expr} {kk : Nat} (hm : X.mg "enumerate" = none) (ha : DA K O Wx X [e] ta ma) (hg : Gl X "enumerate" := by rfl) (hs : starEach [e] X.env = [(false, eval e X.env)] := by rfl) :
    DI K O Wx X (.Tuple elts kk tpos) (.Call (.Name "enumerate" p) [e] [] pos) (iEnum K ta) (mItA O dEnum ma) := by
  refine ⟨by have := ha.hK; subst this; exact pi_enum hg hm ha.pe hs, fun σ ρ H0 G H s Q F h => ?_⟩
  refine ha.sn σ ρ H0 G H s _ F (pst_bind h fun ds s1 _ x G1 H1 t1 k1 r1 h1 => ?_)
  cases e0 : dEnum ds with
  | none => rw [e0] at h1; exact (show False from h1).elim
  | some its =>
    rw [e0] at h1
    unfold dEnum at e0
    split at e0
    · cases e0
      cases r1 with
      | cons r1 r2 =>
        cases r2
        cases r1 with
        | lst hs r1 => exact ⟨_, _, rfl, t1.gh.seq hs, h1 _ G1 H1 (.refl t1.gh) k1 (it_enum hs r1)⟩
    · cases e0
theorem getElem?_rev {α : Type} {l : List α} {i : Nat} (h : i < l.length) : l.reverse[i]? = l[l.length - 1 - i]? := by
  rw [List.getElem?_reverse h]
theorem it_rev {a : Addr} {vs : List V} {ds : List D} (hs : SqL K G a vs) (r : Reps K G vs ds) : ItOk K (Itv K a vs.length) G ds.reverse := fun G1 H e1 e2 i => by
  have h1 : SqL K H a vs := e2.seq (e1.seq hs)
  refine ⟨fun d hd => ?_, fun hl => show vs.length ≤ i by rw [r.length]; simpa using hl⟩
  have hi : i < ds.length := by simpa using (List.getElem?_eq_some_iff.mp hd).1
  rw [getElem?_rev hi, ← r.length] at hd
  obtain ⟨v, hv, rv⟩ := r.get' hd
  refine ⟨⟨by rw [r.length]; exact hi, vs, v, h1, hv⟩, fun x H' y => ?_⟩
  obtain ⟨e, y⟩ := y
  subst e
  have := y vs h1
  rw [hv] at this
  cases this
  exact ⟨G1, .refl e2, rv.mono e1⟩
def dRev : List D → Option (List D)
  | [.lst xs] => some xs.reverse
  | _ => none
theorem di_rev {tg e : Expr} {ta : TA} {ma : MA O} {p pos : Pos} (hm : X.mg "reversed" = none) (ha : DA K O Wx X [e] ta ma) (hg : Gl X "reversed" := by rfl) (hs : starEach [e] X.env = [(false, eval e X.env)] := by rfl) :
    DI K O Wx X tg (.Call (.Name "reversed" p) [e] [] pos) (iRev K ta) (mItA O dRev ma) := by
  refine ⟨by have := ha.hK; subst this; exact pi_reversed hg hm ha.pe hs, fun σ ρ H0 G H s Q F h => ?_⟩
  refine ha.sn σ ρ H0 G H s _ F (pst_bind h fun ds s1 _ x G1 H1 t1 k1 r1 h1 => ?_)
  cases e0 : dRev ds with
  | none => rw [e0] at h1; exact (show False from h1).elim
  | some its =>
    rw [e0] at h1
    unfold dRev at e0
    split at e0
    · cases e0
      cases r1 with
      | cons r1 r2 =>
        cases r2
        cases r1 with
        | lst hs r1 => exact ⟨_, _, rfl, t1.gh.seq hs, h1 _ G1 H1 (.refl t1.gh) k1 (it_rev hs r1)⟩
    · cases e0
/-! ### new lists -/
/-- an expression whose value is a new list, that nobody else holds -/
def PstN (K : PySem.W.Frag) (O : Wo) (Wx : WX) (σ : L2.St) (G H : Hp) (r : R O.S (List D)) (Q : VK) : Prop :=
  match r with
  | .ok ds s' => ∀ p vs G' H', Tr O.W G H G' H' → O.ok s' H' → H p = none → G' p = none → H' p = some (.lst vs) → Reps K G' vs ds → Q (.ref p) H'
  | .err c fs s' => ∀ dd xs G' H', Tr O.W G H G' H' → O.ok s' H' → H' dd = some (.xd xs) → ¬ O.W dd → RepF K G' xs fs → Wx (.ref c) (some dd) σ H'
  | .bad => False
def SndN (K : PySem.W.Frag) (O : Wo) (Wx : WX) (t : TE) (m : MA O) : Prop := ∀ σ ρ H0 G H s Q, Fm K O H0 σ ρ G H s → PstN K O Wx σ G H (m ρ s) Q → t σ H Q
structure DN (K : PySem.W.Frag) (O : Wo) (Wx : WX) (X : Cx) (e : Expr) (t : TE) (m : MA O) : Prop where
  hK : X.K = K
  tk : Takes X Wx
  pe : PE X e t
  sn : SndN K O Wx t m
/-- what was kept apart never changes any more -/
theorem Tr.frz {W : Addr → Prop} {G H G' H' : Hp} {p : Addr} {o : HO} (t : Tr W G H G' H') (n : H p = none) (g : G' p = none) (h : H' p = some o) : Tr W G H (upd G' p o) H' := by
  refine ⟨fun b u e => ?_, fun b u e => ?_, fun b u e => ?_, t.kp, t.dm⟩
  · rw [upd_ne (ne_of_none (t.gg b u e) g)]; exact t.gg b u e
  · by_cases hb : b = p
    · subst hb; rw [upd_same] at e; rw [h]; exact e
    · rw [upd_ne hb] at e; exact t.gh b u e
  · by_cases hb : b = p
    · subst hb; exact .inr n
    · rw [upd_ne hb] at e; exact t.gr b u e
def mLst (O : Wo) (m : MA O) : ME O := fun ρ s => (m ρ s).bind fun xs s1 => .ok (.lst xs) s1
theorem DN.de {e : Expr} {t : TE} {m : MA O} (h : DN K O Wx X e t m) : DE K O Wx X e t (mLst O m) := by
  refine ⟨h.hK, h.tk, h.pe, fun σ ρ H0 G H s Q F q => ?_⟩
  refine h.sn σ ρ H0 G H s Q F ?_
  unfold mLst at q
  revert q
  cases m ρ s with
  | ok ds s1 =>
    exact fun q p vs G' H' t k n g e r => q (.ref p) (upd G' p (.lst vs)) H' (t.frz n g e) k (.lst (.inl (.inl upd_same)) (r.mono fun b u eb => by rw [upd_ne (ne_of_none eb g)]; exact eb))
  | err c fs s1 => exact fun q => q
  | bad => exact fun q => q
/-- a hidden new object is written -/
theorem Tr.mut {W : Addr → Prop} {G H G' H' : Hp} {p : Addr} {o : HO} (t : Tr W G H G' H') (n : H p = none) (g : G' p = none) : Tr W G H G' (upd H' p o) := by
  refine ⟨t.gg, fun b u e => by rw [upd_ne (ne_of_none e g)]; exact t.gh b u e, t.gr, fun b u w e => by rw [upd_ne (ne_of_none e n)]; exact t.kp b u w e, fun b e => ?_⟩
  by_cases hb : b = p
  · subst hb; exact n
  · rw [upd_ne hb] at e; exact t.dm b e
def listMax (xs : List D) : Option (List D) := if xs.length ≤ 100000 then some xs else none
def mDisp (O : Wo) (m : MA O) : MA O := fun ρ s => (m ρ s).bind fun xs s1 => R.lift (listMax xs) s1
theorem dn_list {es : List Expr} {ta : TA} {ma : MA O} {pos : Pos} (ha : DA K O Wx X es ta ma) : DN K O Wx X (.List es pos) (tLst ta) (mDisp O ma) := by
  refine ⟨ha.hK, ha.tk, pe_lst ha.pe, fun σ ρ H0 G H s Q F h => ?_⟩
  refine ha.sn σ ρ H0 G H s _ F ?_
  unfold mDisp at h
  revert h
  cases ma ρ s with
  | ok ds s1 =>
    intro h xs G1 H1 t1 k1 r1
    have F1 := F.tr t1 k1
    rw [bind_ok] at h
    unfold listMax at h
    split at h
    · rename_i hz
      refine ⟨by rw [r1.length]; exact sz5 hz, fun p np => ?_⟩
      refine h p xs G1 (upd H1 p (.lst xs)) (t1.mut (t1.dm p np) (F1.gh.free np)) ?_ (t1.dm p np) (F1.gh.free np) upd_same r1
      exact O.loc s1 H1 _ (fun a w => by rw [upd_ne]; intro e; rw [e] at w; exact O.dom s1 H1 p k1 w np) k1
    · exact h.elim
  | err c fs s1 => exact fun h => h
  | bad => exact fun h => h
/-! ### comprehensions -/
abbrev WF : WX := fun _ _ _ _ => False
def wipeE (ρ : Ev) : List Nat → Ev
  | [] => ρ
  | v :: vs => (wipeE ρ vs).set v .no
theorem Fm.clr (f : Fm K O H0 σ ρ G H s) (i : Nat) : Fm K O H0 (σ.set i none) (ρ.set i .no) G H s := by
  refine ⟨f.gh, f.wg, f.ok, by simpa using f.len, fun j o x a b => ?_, fun j k p x y hjk a b c e g => ?_⟩
  · by_cases hj : i = j
    · subst hj
      have h2 := (List.getElem?_eq_some_iff.mp b).1
      rw [List.length_set] at h2
      rw [List.getElem?_set_self h2] at b
      cases b
      trivial
    · rw [List.getElem?_set_ne hj] at a b
      exact f.sl j o x a b
  · by_cases hj : i = j
    · subst hj
      have h2 := (List.getElem?_eq_some_iff.mp a).1
      rw [List.length_set] at h2
      rw [List.getElem?_set_self h2] at a
      cases a
      cases c
    · by_cases hk : i = k
      · subst hk
        have h2 := (List.getElem?_eq_some_iff.mp b).1
        rw [List.length_set] at h2
        rw [List.getElem?_set_self h2] at b
        cases b
        cases e
      · rw [List.getElem?_set_ne hj] at a g
        rw [List.getElem?_set_ne hk] at b
        rw [List.getElem?_set_ne hk]
        exact f.ds j k p x y hjk a b c e g
theorem Fm.wipe (f : Fm K O H0 σ ρ G H s) : ∀ vs : List Nat, Fm K O H0 (L2.wipe σ vs) (wipeE ρ vs) G H s
  | [] => f
  | v :: vs => (f.wipe vs).clr v
structure DTs (K : PySem.W.Frag) (O : Wo) (Wx : WX) (X : Cx) (e : List Expr) (t : TT) (m : MT O) : Prop where
  pe : PTs X e t
  sn : SndT K O Wx t m
def mYes (O : Wo) : MT O := fun _ s => .ok true s
theorem dts_nil : DTs K O Wx X [] tYes (mYes O) := ⟨pts_nil, fun σ ρ H0 G H s Q F h => h true G H (.refl F.gh) F.ok rfl⟩
theorem dts_one {c : Expr} {t : TT} {m : MT O} (h : DT K O Wx X c t m) : DTs K O Wx X [c] t m := ⟨pts_one h.pe, h.sn⟩
def lcL (O : Wo) (f : D → Ev → Option Ev) (mt : MT O) (me : ME O) (ρ : Ev) : List D → List D → O.S → R O.S (List D)
  | [], acc, s => .ok acc s
  | d :: ds, acc, s => match f d ρ with
    | none => .bad
    | some ρ1 => match mt ρ1 s with
      | .ok true s1 => match me ρ1 s1 with
        | .ok y s2 => if acc.length < 100000 then lcL O f mt me ρ ds (acc ++ [y]) s2 else .bad
        | _ => .bad
      | .ok false s1 => lcL O f mt me ρ ds acc s1
      | _ => .bad
def mLc (O : Wo) (mi : MI O) (f : D → Ev → Option Ev) (mt : MT O) (me : ME O) (vs : List Nat) : MA O := fun ρ s => (mi ρ s).bind fun items s1 => lcL O f mt me (wipeE ρ vs) items [] s1
theorem snd_lc {wi : TI} {mi : MI O} {g : TG} {f : D → Ev → Option Ev} {is vs : List Nat} {tt : TT} {mt : MT O} {te : TE} {me : ME O} (hi : SndI K O Wx wi mi) (hg : SndG K O g f is) (ht : SndT K O WF tt mt) (he : SndE K O WF te me) (hv : ∀ i ∈ is, i ∈ vs) :
    SndN K O Wx (tLc wi g tt te vs) (mLc O mi f mt me vs) := by
  intro σ ρ H0 G H s Q F h
  refine hi σ ρ H0 G H s _ F ?_
  unfold mLc at h
  revert h
  cases mi ρ s with
  | err c fs s1 => exact fun h => h
  | bad => exact fun h => h
  | ok items s1 =>
    intro h J G1 H1 t1 k1 ok Da nD
    rw [bind_ok] at h
    have F1 := F.tr t1 k1
    have nDH : H Da = none := t1.dm Da nD
    have nW : ¬ O.W Da := fun w => O.dom s1 H1 Da k1 w nD
    refine ⟨fun i m H2 => ∃ G2 s2 accV acc, m = (items.drop i).length ∧ Tr O.W G1 H1 G2 H2 ∧ O.ok s2 H2 ∧ G2 Da = none ∧ H2 Da = some (.lst accV) ∧ Reps K G2 accV acc ∧ PstN K O Wx σ G H (lcL O f mt me (wipeE ρ vs) (items.drop i) acc s2) Q, ?_, ?_⟩
    · refine ⟨items.length, G1, s1, [], [], by simp, (Tr.refl F1.gh).mut nD (F1.gh.free nD), ?_, F1.gh.free nD, upd_same, .nil, by simpa using h⟩
      exact O.loc s1 H1 _ (fun a w => by rw [upd_ne]; intro e; rw [e] at w; exact nW w) k1
    · rintro i m H2 ⟨G2, s2, accV, acc, rfl, t2, k2, g2, hD, ra, h2⟩
      obtain ⟨ok1, ok2⟩ := ok G2 H2 t2.gg t2.gh i
      have F2 : Fm K O H0 σ ρ G2 H2 s2 := F1.tr t2 k2
      cases hd : items.drop i with
      | nil =>
        rw [hd] at h2
        exact .inl ⟨ok2 (by simpa using hd), h2 Da accV G2 H2 (t1.trans t2) k2 nDH g2 hD ra⟩
      | cons d ds =>
        have hlt : i < items.length := by
          by_cases z : i < items.length
          · exact z
          · rw [List.drop_eq_nil_of_le (by omega)] at hd; cases hd
        have hi? : items[i]? = some d := by
          have := List.drop_eq_getElem_cons hlt
          rw [hd] at this
          injection this with a b
          rw [List.getElem?_eq_getElem hlt, a]
        have hds : items.drop (i + 1) = ds := by
          have := List.drop_eq_getElem_cons hlt
          rw [hd] at this
          injection this with a b
          exact b.symm
        obtain ⟨go, yl⟩ := ok1 d hi?
        rw [hd] at h2
        refine .inr ⟨go, fun H3 => ∃ G3 s3 accV acc, Tr O.W G1 H1 G3 H3 ∧ O.ok s3 H3 ∧ G3 Da = none ∧ H3 Da = some (.lst accV) ∧ Reps K G3 accV acc ∧ PstN K O Wx σ G H (lcL O f mt me (wipeE ρ vs) ds acc s3) Q, ?_, fun x H3 y => ?_⟩
        · rintro H3 ⟨G3, s3, aV, a, b1, b2, b3, b4, b5, b6⟩
          exact ⟨ds.length, by simp, G3, s3, aV, a, by rw [hds], b1, b2, b3, b4, b5, by rw [hds]; exact b6⟩
        · obtain ⟨G3, t3, r3⟩ := yl x H3 y
          have F3 := F2.tr0 t3
          have F3w := F3.wipe vs
          have kpD : ∀ {Ga Ha Gb Hb : Hp}, Tr O.W Ga Ha Gb Hb → Ga Da = none → Ha Da = some (.lst accV) → Gb Da = none ∧ Hb Da = some (.lst accV) := fun {Ga Ha Gb Hb} t a b => by
            refine ⟨?_, t.kp _ _ nW b⟩
            cases e : Gb Da with
            | none => rfl
            | some z => rcases t.gr Da z e with q | q <;> simp_all
          obtain ⟨g3, hD3⟩ := kpD t3.up g2 hD
          unfold lcL at h2
          cases ef : f d (wipeE ρ vs) with
          | none => rw [ef] at h2; exact (show False from h2).elim
          | some ρ1 =>
            rw [ef] at h2
            refine hg H0 (L2.wipe σ vs) (wipeE ρ vs) G3 H3 s2 x d ρ1 _ F3w r3 ef fun σ4 F4 w4 => ?_
            refine ⟨by rw [w4 vs hv]; exact wipe_idem σ vs, ?_⟩
            refine ht σ4 ρ1 H0 G3 H3 s2 _ F4 ?_
            revert h2
            dsimp only
            cases mt ρ1 s2 with
            | bad => exact fun h2 => h2
            | err c fs s' => exact fun h2 => (show False from h2).elim
            | ok b s5 =>
              intro h2 b' G5 H5 t5 k5 e5
              subst e5
              obtain ⟨g5, hD5⟩ := kpD t5 g3 hD3
              cases b' with
              | false =>
                rw [if_neg Bool.false_ne_true]
                exact ⟨G5, s5, accV, acc, (t2.trans t3.up).trans t5, k5, g5, hD5, (ra.mono t3.gg).mono t5.gg, h2⟩
              | true =>
                rw [if_pos rfl]
                have F5 := F4.tr t5 k5
                refine he σ4 ρ1 H0 G5 H5 s5 _ F5 ?_
                revert h2
                dsimp only
                cases me ρ1 s5 with
                | bad => exact fun h2 => h2
                | err c fs s' => exact fun h2 => (show False from h2).elim
                | ok dy s6 =>
                  intro h2 yv G6 H6 t6 k6 r6
                  obtain ⟨g6, hD6⟩ := kpD t6 g5 hD5
                  have ra6 : Reps K G6 accV acc := ((ra.mono t3.gg).mono t5.gg).mono t6.gg
                  dsimp only at h2
                  split at h2
                  · rename_i hz
                    refine ⟨accV, hD6, by rw [ra6.length]; exact sz5l hz, G6, s6, accV ++ [yv], acc ++ [dy], (((t2.trans t3.up).trans t5).trans t6).mut nD g6, ?_, g6, upd_same, ra6.append (.cons r6 .nil), h2⟩
                    exact O.loc s6 H6 _ (fun a w => by rw [upd_ne]; intro e; rw [e] at w; exact nW w) k6
                  · exact (show False from h2).elim
where
  wipe_idem (σ : L2.St) (vs : List Nat) : L2.wipe (L2.wipe σ vs) vs = L2.wipe σ vs := by
    have key : ∀ ws : List Nat, (∀ i ∈ ws, i ∈ vs) → L2.wipe (L2.wipe σ ws) vs = L2.wipe σ vs := by
      intro ws
      induction ws with
      | nil => intro _; rfl
      | cons w ws ih =>
        intro hw
        show L2.wipe ((L2.wipe σ ws).set w none) vs = _
        rw [wipe_set (hw w List.mem_cons_self)]
        exact ih fun i hi => hw i (List.mem_cons_of_mem _ hi)
    exact key vs fun _ h => h
/-- [e for tg in iter if ..] -/
theorem dn_lc {elt tg iter : Expr} {ifs : List Expr} {scope : Scope} {own : List (Str × Nat)} {pos : Pos} {wi : TI} {g : TG} {tt : TT} {te : TE} {mi : MI O} {f : D → Ev → Option Ev} {is : List Nat} {mt : MT O} {me : ME O} (c : Cs K Wx X) (hi : DI K O Wx X tg iter wi mi) (ok : BlkOk X.N X.env.scope scope own)
    (hg : ∀ (s : Shared) (H : Hp) (C : Addr) (cl : List (Str × Addr)) (fp : List Addr), DG K O (X.blk s H scope (compEnvC scope cl C X.env) fp) tg g f is)
    (ht : ∀ (s : Shared) (H : Hp) (C : Addr) (cl : List (Str × Addr)) (fp : List Addr), Cn K WF (X.blk s H scope (compEnvC scope cl C X.env) fp) → DTs K O WF (X.blk s H scope (compEnvC scope cl C X.env) fp) ifs tt mt)
    (he : ∀ (s : Shared) (H : Hp) (C : Addr) (cl : List (Str × Addr)) (fp : List Addr), Cn K WF (X.blk s H scope (compEnvC scope cl C X.env) fp) → DE K O WF (X.blk s H scope (compEnvC scope cl C X.env) fp) elt te me)
    (hv : ∀ i ∈ is, i ∈ own.map (·.2) := by decide) (hs : ∀ x, foldedSetIterable iter X.env x = pure x := by intro _; rfl) : DN K O Wx X (.ListComp elt [⟨tg, iter, ifs, 0⟩] scope pos) (tLc wi g tt te (own.map (·.2))) (mLc O mi f mt me (own.map (·.2))) := by
  have cn : ∀ (s : Shared) (H : Hp) (C : Addr) (cl : List (Str × Addr)) (fp : List Addr), Cn K WF (X.blk s H scope (compEnvC scope cl C X.env) fp) := fun s H C cl fp => ⟨c.cn.hK, takes0⟩
  refine ⟨c.cn.hK, c.cn.tk, pe_lc c.hc c.nd hi.pe ok (fun s H C cl fp => (hg s H C cl fp).pe) (fun s H C cl fp => (ht s H C cl fp (cn ..)).pe) (fun s H C cl fp => (he s H C cl fp (cn ..)).pe) hs, ?_⟩
  exact snd_lc hi.sn (hg X.s_0 (fun _ => none) 0 [] []).sn (ht X.s_0 (fun _ => none) 0 [] [] (cn ..)).sn (he X.s_0 (fun _ => none) 0 [] [] (cn ..)).sn hv
end
end Mr

namespace Mr
open PySem PySem.Spec PyProof.Rows L2 RZ
section
variable {K : PySem.W.Frag} {O : Wo} {Wx : WX} {X : Cx} {G0 H0 G H G1 H1 : Hp} {σ : L2.St} {ρ : Ev} {s s1 : O.S}
/-! ### lists of one's own: a slot holds a list that nobody else holds -/
theorem own_in {x : Sl} {o : Option V} (h : SlOk K O H0 G H o x) (hx : isOwn x = true) : ∃ p u, o = some (.ref p) ∧ H p = some u := by
  cases x with
  | own xs => obtain ⟨p, vs, a, b, _⟩ := h; exact ⟨p, _, a, b⟩
  | ownD xs => obtain ⟨p, vs, a, b, _⟩ := h; exact ⟨p, _, a, b⟩
  | ownI C xs => obtain ⟨p, dx, vs, a, b, _⟩ := h; exact ⟨p, _, a, b⟩
  | _ => cases hx
/-- slot i is set to a new thing of one's own, at p -/
theorem Fm.put (f : Fm K O H0 σ ρ G H s) (t : Tr O.W G H G1 H1) (k : O.ok s1 H1) {i : Nat} {p : Addr} {x : Sl} (np : H p = none) (ok : SlOk K O H0 G1 H1 (some (.ref p)) x) : Fm K O H0 (σ.set i (some (.ref p))) (ρ.set i x) G1 H1 s1 := by
  have f1 := f.tr t k
  have far : ∀ (j : Nat) (y : Sl), ρ[j]? = some y → isOwn y = true → σ[j]? ≠ some (some (.ref p)) := fun j y a b e => by
    obtain ⟨o, e1, e2⟩ := f.at a
    rw [e] at e1
    cases e1
    obtain ⟨q, u, e3, e4⟩ := own_in e2 b
    cases e3
    rw [np] at e4
    cases e4
  refine ⟨f1.gh, f1.wg, k, by simpa using f.len, fun j o y a b => ?_, fun j l q y z hjl a b c e g => ?_⟩
  · by_cases hj : i = j
    · subst hj
      have h1 := (List.getElem?_eq_some_iff.mp a).1
      have h2 := (List.getElem?_eq_some_iff.mp b).1
      rw [List.length_set] at h1 h2
      rw [List.getElem?_set_self h1] at a
      rw [List.getElem?_set_self h2] at b
      cases a; cases b
      exact ok
    · rw [List.getElem?_set_ne hj] at a b
      exact f1.sl j o y a b
  · by_cases hj : i = j
    · subst hj
      have hl : ¬ i = l := hjl
      have h1 := (List.getElem?_eq_some_iff.mp g).1
      rw [List.length_set] at h1
      rw [List.getElem?_set_self h1] at g
      rw [List.getElem?_set_ne hl] at b ⊢
      cases g
      exact far l z b e
    · rw [List.getElem?_set_ne hj] at a g
      by_cases hl : i = l
      · subst hl
        intro g2
        have h1 := (List.getElem?_eq_some_iff.mp g2).1
        rw [List.length_set] at h1
        rw [List.getElem?_set_self h1] at g2
        cases g2
        exact far j y a c g
      · rw [List.getElem?_set_ne hl] at b ⊢
        exact f1.ds j l q y z hjl a b c e g
/-- the thing of slot i, at p, is written -/
theorem Fm.wr (f : Fm K O H0 σ ρ G H s) {i : Nat} {p : Addr} {x y : Sl} {o : HO} (hi : ρ[i]? = some x) (hx : isOwn x = true) (hy : isOwn y = true) (hp : σ[i]? = some (some (.ref p))) (gp : G p = none) (wp : ¬ O.W p) (nx : ∀ u, H p = some u → ∀ fs, u ≠ .xd fs) (ok : SlOk K O H0 G (upd H p o) (some (.ref p)) y) :
    Fm K O H0 σ (ρ.set i y) G (upd H p o) s := by
  refine ⟨fun b u e => by rw [upd_ne (ne_of_none e gp)]; exact f.gh b u e, f.wg, O.loc s H _ (fun a w => by rw [upd_ne]; intro e; rw [e] at w; exact wp w) f.ok, by simpa using f.len, fun j o' z a b => ?_, fun j l q z z2 hjl a b c e g => ?_⟩
  · by_cases hj : i = j
    · subst hj
      have h2 := (List.getElem?_eq_some_iff.mp b).1
      rw [List.length_set] at h2
      rw [List.getElem?_set_self h2] at b
      cases b
      rw [hp] at a
      cases a
      exact ok
    · rw [List.getElem?_set_ne hj] at b
      have q := f.sl j o' z a b
      have far : isOwn z = true → o' ≠ some (.ref p) := fun hz e => by
        subst e
        exact f.ds i j p x z hj hi b hx hz hp a
      cases z with
      | no => trivial
      | sh d => exact q
      | own xs =>
        obtain ⟨r, vs, e1, e2, e3, e4, e5, e6⟩ := q
        exact ⟨r, vs, e1, by rw [upd_ne (fun e => far rfl (by rw [e1, e]))]; exact e2, e3, e4, e5, e6⟩
      | ownD xs =>
        obtain ⟨r, vs, e1, e2, e3, e4, e5, e6⟩ := q
        exact ⟨r, vs, e1, by rw [upd_ne (fun e => far rfl (by rw [e1, e]))]; exact e2, e3, e4, e5, e6⟩
      | ownI C xs =>
        obtain ⟨r, dx, vs, e1, e2, e3, e4, e5, e6⟩ := q
        exact ⟨r, dx, vs, e1, by rw [upd_ne (fun e => far rfl (by rw [e1, e]))]; exact e2, e3, e4, e5, e6⟩
      | exc c fs =>
        obtain ⟨a', dd, xs, e1, e2, e3, e4, e5⟩ := q
        exact ⟨a', dd, xs, e1, e2, by rw [upd_ne (fun e => nx _ (by rw [← e]; exact e3) xs rfl)]; exact e3, e4, e5⟩
  · have own_of : ∀ (j : Nat) (z : Sl), (ρ.set i y)[j]? = some z → isOwn z = true → ∃ z', ρ[j]? = some z' ∧ isOwn z' = true := fun j z a c => by
      by_cases hj : i = j
      · subst hj; exact ⟨x, hi, hx⟩
      · rw [List.getElem?_set_ne hj] at a; exact ⟨z, a, c⟩
    obtain ⟨u1, a1, c1⟩ := own_of j z a c
    obtain ⟨u2, a2, c2⟩ := own_of l z2 b e
    exact f.ds j l q u1 u2 hjl a1 a2 c1 c2 g
theorem Fs.wr (f : Fs K O G0 H0 σ ρ G H s) {i : Nat} {p : Addr} {x y : Sl} {o : HO} (hi : ρ[i]? = some x) (hx : isOwn x = true) (hy : isOwn y = true) (hp : σ[i]? = some (some (.ref p))) (gp : G p = none) (wp : ¬ O.W p) (h0 : H0 p = none) (nx : ∀ u, H p = some u → ∀ fs, u ≠ .xd fs) (ok : SlOk K O H0 G (upd H p o) (some (.ref p)) y) :
    Fs K O G0 H0 σ (ρ.set i y) G (upd H p o) s := ⟨f.fm.wr hi hx hy hp gp wp nx ok, f.tr.mut h0 gp⟩
/-- x = a new list -/
def mOwn (O : Wo) (i : Nat) (m : MA O) : MS O := fun ρ s => toS (m ρ s) ρ fun xs s1 => .nx (ρ.set i (.own xs)) s1
theorem snd_own {i : Nat} {te : TE} {me : MA O} (he : SndN K O Wx te me) : SndS K O Wx (tAsg te (gName i)) (mOwn O i me) := by
  intro G0 H0 σ ρ G H s Dn F h
  refine he σ ρ H0 G H s _ F.fm ?_
  unfold mOwn at h
  revert h
  cases me ρ s with
  | ok ds s1 =>
    intro h p vs G' H' t k n g e r
    have n0 : H0 p = none := F.tr.dm p n
    have nW : ¬ O.W p := fun w => O.dom s H p F.fm.ok w n
    exact h _ G' H' t.gg ⟨F.fm.put t k n ⟨p, vs, rfl, e, r, g, nW, n0⟩, F.tr.trans t⟩
  | err c fs s' => exact fun h dd xs G' H' t k e n r => h σ dd xs G' H' t.gg (F.go t k) e n r
  | bad => exact fun h => h
theorem ds_own (i : Nat) {x : Str} {e : Expr} {te : TE} {me : MA O} {pos pos' : Pos} (hN : X.N.Nodup) (he : DN K O Wx X e te me) (hi : X.N[i]? = some x := by rfl) (hx : Loc X.env.scope x := by first | exact Or.inl rfl | exact Or.inr rfl) (hs : swapsWith e (some (.Name x pos')) pos.line X.env = pure false := by rfl)
    (hf : X.fn x = true ∨ X.env.scope.names.lookup x = some .local := by first | exact .inl rfl | exact .inr rfl | assumption) : DS K O Wx X (.Assign [.Name x pos'] e pos) (tAsg te (gName i)) (mOwn O i me) := ⟨ps_set hN hi hx he.pe hs hf, snd_own he.sn⟩
/-- x = [.. for ..], x a local: the list is told (mAsg), or one's own (mOwn) -/
structure DLc (K : PySem.W.Frag) (O : Wo) (Wx : WX) (X : Cx) (elt tg iter : Expr) (ifs : List Expr) (scope : Scope) (pos : Pos) (t : TE) (m : MA O) : Prop where
  dn : DN K O Wx X (.ListComp elt [⟨tg, iter, ifs, 0⟩] scope pos) t m
  ps : ∀ (i : Nat) (y : Str) (py spos : Pos), X.N[i]? = some y → X.env.scope.names.lookup y = some .local → swapsWith (.ListComp elt [⟨tg, iter, ifs, 0⟩] scope pos) (some (.Name y py)) spos.line X.env = pure true →
    PS X (.Assign [.Name y py] (.ListComp elt [⟨tg, iter, ifs, 0⟩] scope pos) spos) (tAsg t (gName i))
theorem dlc {elt tg iter : Expr} {ifs : List Expr} {scope : Scope} {own : List (Str × Nat)} {pos : Pos} {wi : TI} {g : TG} {tt : TT} {te : TE} {mi : MI O} {f : D → Ev → Option Ev} {is : List Nat} {mt : MT O} {me : ME O} (c : Cs K Wx X) (hi : DI K O Wx X tg iter wi mi) (ok : BlkOk X.N X.env.scope scope own)
    (hg : ∀ (s : Shared) (H : Hp) (C : Addr) (cl : List (Str × Addr)) (fp : List Addr), DG K O (X.blk s H scope (compEnvC scope cl C X.env) fp) tg g f is)
    (ht : ∀ (s : Shared) (H : Hp) (C : Addr) (cl : List (Str × Addr)) (fp : List Addr), Cn K WF (X.blk s H scope (compEnvC scope cl C X.env) fp) → DTs K O WF (X.blk s H scope (compEnvC scope cl C X.env) fp) ifs tt mt)
    (he : ∀ (s : Shared) (H : Hp) (C : Addr) (cl : List (Str × Addr)) (fp : List Addr), Cn K WF (X.blk s H scope (compEnvC scope cl C X.env) fp) → DE K O WF (X.blk s H scope (compEnvC scope cl C X.env) fp) elt te me)
    (hv : ∀ i ∈ is, i ∈ own.map (·.2) := by decide) (hs : ∀ x, foldedSetIterable iter X.env x = pure x := by intro _; rfl) : DLc K O Wx X elt tg iter ifs scope pos (tLc wi g tt te (own.map (·.2))) (mLc O mi f mt me (own.map (·.2))) := by
  have cn : ∀ (s : Shared) (H : Hp) (C : Addr) (cl : List (Str × Addr)) (fp : List Addr), Cn K WF (X.blk s H scope (compEnvC scope cl C X.env) fp) := fun s H C cl fp => ⟨c.cn.hK, takes0⟩
  exact ⟨dn_lc c hi ok hg ht he hv hs, fun i y py spos hy hyl hsw => ps_setLc c.hc c.nd hy hyl hsw hi.pe ok (fun s H C cl fp => (hg s H C cl fp).pe) (fun s H C cl fp => (ht s H C cl fp (cn ..)).pe) (fun s H C cl fp => (he s H C cl fp (cn ..)).pe) hs⟩
theorem ds_setLc (i : Nat) {y : Str} {elt tg iter : Expr} {ifs : List Expr} {scope : Scope} {pos py spos : Pos} {t : TE} {m : MA O} (hN : X.N.Nodup) (h : DLc K O Wx X elt tg iter ifs scope pos t m) (hi : X.N[i]? = some y := by rfl) (hyl : X.env.scope.names.lookup y = some .local := by rfl)
    (hsw : swapsWith (.ListComp elt [⟨tg, iter, ifs, 0⟩] scope pos) (some (.Name y py)) spos.line X.env = pure true := by exact sw_true rfl rfl rfl (by decide +kernel))
    (hf : X.fn y = true ∨ X.env.scope.names.lookup y = some .local := by first | exact .inl rfl | exact .inr rfl | assumption) : DS K O Wx X (.Assign [.Name y py] (.ListComp elt [⟨tg, iter, ifs, 0⟩] scope pos) spos) (tAsg t (gName i)) (mAsg O (mLst O m) (fName i)) :=
  ⟨h.ps i y py spos hi hyl hsw, snd_asg h.dn.de.sn (dg_name (K := K) (O := O) (X := X) (pos := py) i hN hi (.inl hyl) hf).sn⟩
theorem ds_ownLc (i : Nat) {y : Str} {elt tg iter : Expr} {ifs : List Expr} {scope : Scope} {pos py spos : Pos} {t : TE} {m : MA O} (h : DLc K O Wx X elt tg iter ifs scope pos t m) (hi : X.N[i]? = some y := by rfl) (hyl : X.env.scope.names.lookup y = some .local := by rfl)
    (hsw : swapsWith (.ListComp elt [⟨tg, iter, ifs, 0⟩] scope pos) (some (.Name y py)) spos.line X.env = pure true := by exact sw_true rfl rfl rfl (by decide +kernel)) :
    DS K O Wx X (.Assign [.Name y py] (.ListComp elt [⟨tg, iter, ifs, 0⟩] scope pos) spos) (tAsg t (gName i)) (mOwn O i m) := ⟨h.ps i y py spos hi hyl hsw, snd_own h.dn.sn⟩
theorem not_xd_l {H : Hp} {p : Addr} {vs : List V} (h : H p = some (.lst vs)) : ∀ u, H p = some u → ∀ fs, u ≠ .xd fs := fun u e fs z => by rw [h] at e; cases e; cases z
/-- x.append(e) -/
def mAppend (O : Wo) (i : Nat) (m : ME O) : MS O := fun ρ s => match ρ[i]? with
  | some (.own xs) => toS (m ρ s) ρ fun d s1 => if xs.length < 100000 then .nx (ρ.set i (.own (xs ++ [d]))) s1 else .bad
  | _ => .bad
theorem ds_append (i : Nat) {x : Str} {e : Expr} {te : TE} {me : ME O} {p1 p2 p3 p4 : Pos} (he : DE K O Wx X e te me) (hN : X.N[i]? = some x := by rfl) (hv : Vis X.env.scope x := by first | exact Or.inl rfl | exact Or.inr (Or.inl rfl) | exact Or.inr (Or.inr rfl)) (hd : (x == ("__debug__" : Str)) = false := by decide)
    (hcd : (x == ("__classdict__" : Str)) = false := by decide) (hpe : PE X (.Call (.Attribute (.Name x p1) "append" p2) [e] [] p3) (tBM X.K "list" rAppend (tVar i) (tCons te tNil)) := by exact pe_bm PySem.F.plainAttrs_list PySem.F.slot_list_append PySem.F.type_list_append mt_append (pv _) (pa_cons (DE.pe (by assumption)) pa_nil))
    (hs : swapsWith (.Call (.Attribute (.Name x p1) "append" p2) [e] [] p3) none p4.line X.env = pure false := by rfl) : DS K O Wx X (.Expr (.Call (.Attribute (.Name x p1) "append" p2) [e] [] p3) p4) (tDrop (tBM K "list" rAppend (tVar i) (tCons te tNil))) (mAppend O i me) := by
  refine ⟨by rw [← he.hK]; exact ps_expr hpe hs, fun G0 H0 σ ρ G H s Dn F h => ?_⟩
  unfold mAppend at h
  split at h
  · rename_i xs ei
    obtain ⟨o, eo, p, vs, rfl, hp, r, gp, wp, h0⟩ := F.fm.at ei
    refine ⟨.ref p, eo, .inl ⟨rfl, vs, .inl (.inl hp)⟩, ?_⟩
    refine he.sn σ ρ H0 G H s _ F.fm (pst_toS F h fun d s1 _ v G1 H1 t1 k1 r1 h1 => ?_)
    have F1 := F.go t1 k1
    split at h1
    · rename_i hz
      obtain ⟨o', eo', p', vs', e', hp', r', gp', wp', h0'⟩ := F1.fm.at ei
      rw [eo] at eo'
      subst e'
      cases eo'
      exact ⟨p, vs', v, rfl, rfl, hp', by rw [r'.length]; exact sz5l hz, h1 σ G1 _ (Same.refl _) (F1.wr ei rfl rfl eo gp' wp' h0' (not_xd_l hp') ⟨p, _, rfl, upd_same, r'.append (.cons r1 .nil), gp', wp', h0'⟩)⟩
    · exact (show False from h1).elim
  · exact h.elim
/-- x.extend(a new list) -/
def mExtend (O : Wo) (i : Nat) (m : MA O) : MS O := fun ρ s => match ρ[i]? with
  | some (.own xs) => toS (m ρ s) ρ fun ds s1 => if xs.length + ds.length ≤ 100000 then .nx (ρ.set i (.own (xs ++ ds))) s1 else .bad
  | _ => .bad
theorem ds_extend (i : Nat) {x : Str} {e : Expr} {te : TE} {me : MA O} {p1 p2 p3 p4 : Pos} (he : DN K O Wx X e te me) (hN : X.N[i]? = some x := by rfl) (hv : Vis X.env.scope x := by first | exact Or.inl rfl | exact Or.inr (Or.inl rfl) | exact Or.inr (Or.inr rfl))
    (hpe : PE X (.Call (.Attribute (.Name x p1) "extend" p2) [e] [] p3) (tBM X.K "list" rExtend (tVar i) (tCons te tNil)) := by exact pe_bm PySem.F.plainAttrs_list PySem.F.slot_list_extend PySem.F.type_list_extend mt_extend (pv _) (pa_cons (DN.pe (by assumption)) pa_nil))
    (hs : swapsWith (.Call (.Attribute (.Name x p1) "extend" p2) [e] [] p3) none p4.line X.env = pure false := by rfl) : DS K O Wx X (.Expr (.Call (.Attribute (.Name x p1) "extend" p2) [e] [] p3) p4) (tDrop (tBM K "list" rExtend (tVar i) (tCons te tNil))) (mExtend O i me) := by
  refine ⟨by rw [← he.hK]; exact ps_expr hpe hs, fun G0 H0 σ ρ G H s Dn F h => ?_⟩
  unfold mExtend at h
  split at h
  · rename_i xs ei
    obtain ⟨o, eo, p, vs, rfl, hp, r, gp, wp, h0⟩ := F.fm.at ei
    refine ⟨.ref p, eo, .inl ⟨rfl, vs, .inl (.inl hp)⟩, ?_⟩
    refine he.sn σ ρ H0 G H s _ F.fm ?_
    revert h
    cases me ρ s with
    | err c fs s' => exact fun h dd xs G' H' t k e n r => h σ dd xs G' H' t.gg (F.go t k) e n r
    | bad => exact fun h => h
    | ok ds s1 =>
      intro h q ws G1 H1 t1 k1 nq gq hq rq
      have F1 := F.go t1 k1
      rw [toS_ok] at h
      split at h
      · rename_i hz
        obtain ⟨o', eo', p', vs', e', hp', r', gp', wp', h0'⟩ := F1.fm.at ei
        rw [eo] at eo'
        subst e'
        cases eo'
        exact ⟨p, q, vs', ws, rfl, rfl, hp', hq, by rw [r'.length, rq.length]; exact sz5 hz, h σ G1 _ t1.gg (F1.wr ei rfl rfl eo gp' wp' h0' (not_xd_l hp') ⟨p, _, rfl, upd_same, r'.append rq, gp', wp', h0'⟩)⟩
      · exact h.elim
  · exact h.elim
/-- x[e1] = e2 -/
def mSetI (O : Wo) (i : Nat) (mi me : ME O) : MS O := fun ρ s => toS (me ρ s) ρ fun d s1 => match ρ[i]? with
  | some (.own xs) => toS (mi ρ s1) ρ fun k s2 => match k with
    | .int z => match ixN xs.length z with
      | some j => .nx (ρ.set i (.own (xs.set j d))) s2
      | none => .bad
    | _ => .bad
  | _ => .bad
theorem ds_setI (i : Nat) {x : Str} {e ei : Expr} {te ti : TE} {me mi : ME O} {p1 p2 p3 : Pos} (he : DE K O Wx X e te me) (hi : DE K O Wx X ei ti mi) (hN : X.N[i]? = some x := by rfl) (hv : Vis X.env.scope x := by first | exact Or.inl rfl | exact Or.inr (Or.inl rfl) | exact Or.inr (Or.inr rfl))
    (hps : PS X (.Assign [.Subscript (.Name x p1) ei p2] e p3) (tAsg te (gSub (tVar i) ti rSetL)) := by exact ps_asg (DE.pe (by assumption)) (pg_sub (pv _) (DE.pe (by assumption)) set_list)) : DS K O Wx X (.Assign [.Subscript (.Name x p1) ei p2] e p3) (tAsg te (gSub (tVar i) ti rSetL)) (mSetI O i mi me) := by
  refine ⟨hps, fun G0 H0 σ ρ G H s Dn F h => ?_⟩
  refine he.sn σ ρ H0 G H s _ F.fm (pst_toS F h fun d s1 _ v G1 H1 t1 k1 r1 h1 => ?_)
  have F1 := F.go t1 k1
  split at h1
  · rename_i xs ei
    obtain ⟨o, eo, p, vs, rfl, hp, r, gp, wp, h0⟩ := F1.fm.at ei
    refine ⟨.ref p, eo, ?_⟩
    refine hi.sn σ ρ H0 G1 H1 s1 _ F1.fm (pst_toS F1 h1 fun k s2 _ kv G2 H2 t2 k2 r2 h2 => ?_)
    have F2 := F1.go t2 k2
    cases k with
    | int z =>
      cases r2
      dsimp only at h2
      split at h2
      · rename_i j ej
        obtain ⟨o', eo', p', vs', e', hp', r', gp', wp', h0'⟩ := F2.fm.at ei
        rw [eo] at eo'
        subst e'
        cases eo'
        exact ⟨p, vs', z, j, rfl, rfl, hp', by rw [r'.length]; exact ej, h2 σ G2 _ (Same.refl _) (F2.wr ei rfl rfl eo gp' wp' h0' (not_xd_l hp') ⟨p, _, rfl, upd_same, r'.set (r1.mono t2.gg) j, gp', wp', h0'⟩)⟩
      · exact (show False from h2).elim
    | _ => exact (show False from h2).elim
  · exact (show False from h1).elim
/-! ### what is one's own never changes any more -/
def frzE (i : Nat) (ρ : Ev) : Ev := match ρ[i]? with
  | some (.own xs) => ρ.set i (.sh (.lst xs))
  | _ => ρ
theorem Fm.frz (f : Fm K O H0 σ ρ G H s) (i : Nat) : ∃ G', Same G G' ∧ Same G' H ∧ (∀ b o, G' b = some o → G b = some o ∨ H0 b = none) ∧ Fm K O H0 σ (frzE i ρ) G' H s := by
  unfold frzE
  split
  · rename_i xs ei
    obtain ⟨o, eo, p, vs, rfl, hp, r, gp, wp, h0⟩ := f.at ei
    have e1 : Same G (upd G p (.lst vs)) := fun b u e => by rw [upd_ne (ne_of_none e gp)]; exact e
    have e2 : Same (upd G p (.lst vs)) H := fun b u e => by
      by_cases hb : b = p
      · subst hb; rw [upd_same] at e; rw [hp]; exact e
      · rw [upd_ne hb] at e; exact f.gh b u e
    refine ⟨upd G p (.lst vs), e1, e2, fun b u e => ?_, ⟨e2, fun a w => ?_, f.ok, by simpa using f.len, fun j o' z a b => ?_, fun j l q z z2 hjl a b c e g => ?_⟩⟩
    · by_cases hb : b = p
      · subst hb; exact .inr h0
      · rw [upd_ne hb] at e; exact .inl e
    · rw [upd_ne (fun e => wp (by rw [← e]; exact w))]; exact f.wg a w
    · by_cases hj : i = j
      · subst hj
        have h2 := (List.getElem?_eq_some_iff.mp b).1
        rw [List.length_set] at h2
        rw [List.getElem?_set_self h2] at b
        cases b
        rw [eo] at a
        cases a
        exact ⟨_, rfl, .lst (.inl (.inl upd_same)) (r.mono e1)⟩
      · rw [List.getElem?_set_ne hj] at b
        have q := f.sl j o' z a b
        have far : isOwn z = true → o' ≠ some (.ref p) := fun hz e => by
          subst e
          exact f.ds i j p _ z hj ei b rfl hz eo a
        cases z with
        | no => trivial
        | sh d => obtain ⟨v, q1, q2⟩ := q; exact ⟨v, q1, q2.mono e1⟩
        | own xs =>
          obtain ⟨r, vs, e1', e2', e3, e4, e5, e6⟩ := q
          exact ⟨r, vs, e1', e2', e3.mono e1, by rw [upd_ne (fun e => far rfl (by rw [e1', e]))]; exact e4, e5, e6⟩
        | ownD xs =>
          obtain ⟨r, vs, e1', e2', e3, e4, e5, e6⟩ := q
          exact ⟨r, vs, e1', e2', e3.mono e1, by rw [upd_ne (fun e => far rfl (by rw [e1', e]))]; exact e4, e5, e6⟩
        | ownI C xs =>
          obtain ⟨r, dx, vs, e1', e2', e3, e4, e5, e6⟩ := q
          exact ⟨r, dx, vs, e1', e2', e3.mono e1, by rw [upd_ne (fun e => far rfl (by rw [e1', e]))]; exact e4, e5, e6⟩
        | exc c fs =>
          obtain ⟨a', dd, xs, q1, q2, q3, q4, q5⟩ := q
          exact ⟨a', dd, xs, q1, q2, q3, q4.mono e1, q5⟩
    · by_cases hj : i = j
      · subst hj
        have h2 := (List.getElem?_eq_some_iff.mp a).1
        rw [List.length_set] at h2
        rw [List.getElem?_set_self h2] at a
        cases a
        cases c
      · by_cases hk : i = l
        · subst hk
          have h2 := (List.getElem?_eq_some_iff.mp b).1
          rw [List.length_set] at h2
          rw [List.getElem?_set_self h2] at b
          cases b
          cases e
        · rw [List.getElem?_set_ne hj] at a
          rw [List.getElem?_set_ne hk] at b
          exact f.ds j l q z z2 hjl a b c e g
  · exact ⟨G, Same.refl _, f.gh, fun b o e => .inl e, f⟩
/-- ahead of a block: slot i's list is from now on as all others -/
def mFrz (O : Wo) (i : Nat) (m : MS O) : MS O := fun ρ s => m (frzE i ρ) s
theorem SndS.frz {t : TS} {m : MS O} (i : Nat) (h : SndS K O Wx t m) : SndS K O Wx t (mFrz O i m) := by
  intro G0 H0 σ ρ G H s Dn F q
  obtain ⟨G', e1, e2, e3, F'⟩ := F.fm.frz i
  refine h G0 H0 σ (frzE i ρ) G' H s Dn ⟨F', ?_⟩ (PstS.shift e1 q)
  refine ⟨F.tr.gg.trans e1, e2, fun b o e => ?_, F.tr.kp, F.tr.dm⟩
  rcases e3 b o e with q | q
  · exact F.tr.gr b o q
  · exact .inr q
theorem db_frz (i : Nat) {e : List Stmt} {t : TS} {m : MS O} (h : DB K O Wx X e t m) : DB K O Wx X e t (mFrz O i m) := ⟨h.pe, h.sn.frz i⟩
theorem ds_frz (i : Nat) {e : Stmt} {t : TS} {m : MS O} (h : DS K O Wx X e t m) : DS K O Wx X e t (mFrz O i m) := ⟨h.pe, h.sn.frz i⟩
/-- lent for one expression whose value is a plain scalar -/
def scalD : D → Bool
  | .non => true
  | .bl _ => true
  | .int _ => true
  | .str _ => true
  | _ => false
theorem Rep.scal {v : V} {d : D} (r : Rep K G v d) (h : scalD d = true) : ∀ G', Rep K G' v d := by
  cases r <;> first | (cases h; done) | (intro G'; constructor)
def frzL (is : List Nat) (ρ : Ev) : Ev := is.foldr frzE ρ
theorem Fm.frzL (f : Fm K O H0 σ ρ G H s) : ∀ is : List Nat, ∃ G', Same G G' ∧ Same G' H ∧ Fm K O H0 σ (Mr.frzL is ρ) G' H s
  | [] => ⟨G, Same.refl _, f.gh, f⟩
  | i :: is => by
    obtain ⟨G1, a, b, c⟩ := f.frzL is
    obtain ⟨G2, a2, b2, _, c2⟩ := c.frz i
    exact ⟨G2, a.trans a2, b2, c2⟩
def mLend (O : Wo) (is : List Nat) (m : ME O) : ME O := fun ρ s => (m (frzL is ρ) s).bind fun d s1 => if scalD d = true then .ok d s1 else .bad
theorem tr_back {W : Addr → Prop} {G Gt H G' H' : Hp} (e : Same G Gt) (t : Tr W Gt H G' H') : Tr W G H G H' := ⟨Same.refl _, (e.trans t.gg).trans t.gh, fun _ _ e => .inl e, t.kp, t.dm⟩
theorem de_lend (is : List Nat) {e : Expr} {t : TE} {m : ME O} (h : DE K O Wx X e t m) (hw : ∀ ρ s c fs s', m ρ s ≠ .err c fs s') : DE K O Wx X e t (mLend O is m) := by
  refine ⟨h.hK, h.tk, h.pe, fun σ ρ H0 G H s Q F q => ?_⟩
  obtain ⟨Gt, e1, e2, Ft⟩ := F.frzL is
  refine h.sn σ (frzL is ρ) H0 Gt H s Q Ft ?_
  unfold mLend at q
  revert q
  cases em : m (frzL is ρ) s with
  | ok d s1 =>
    intro q v G' H' t' k' r'
    rw [bind_ok] at q
    split at q
    · rename_i hs
      exact q v G H' (tr_back e1 t') k' (r'.scal hs G)
    · exact q.elim
  | err c fs s1 => exact absurd em (hw _ _ _ _ _)
  | bad => exact fun q => q
def mLendT (O : Wo) (is : List Nat) (m : MT O) : MT O := fun ρ s => m (frzL is ρ) s
theorem dt_lend (is : List Nat) {e : Expr} {t : TT} {m : MT O} (h : DT K O Wx X e t m) (hw : ∀ ρ s c fs s', m ρ s ≠ .err c fs s') : DT K O Wx X e t (mLendT O is m) := by
  refine ⟨h.hK, h.tk, h.pe, fun σ ρ H0 G H s Q F q => ?_⟩
  obtain ⟨Gt, e1, e2, Ft⟩ := F.frzL is
  refine h.sn σ (frzL is ρ) H0 Gt H s Q Ft ?_
  unfold mLendT at q
  revert q
  cases em : m (frzL is ρ) s with
  | ok d s1 => exact fun q v G' H' t' k' r' => q v G H' (tr_back e1 t') k' r'
  | err c fs s1 => exact absurd em (hw _ _ _ _ _)
  | bad => exact fun q => q
/-! ### built-in functions -/
def dLen : List D → Option D
  | [.lst xs] => some (.int xs.length)
  | [.tup xs] => some (.int xs.length)
  | [.str x] => if x.length ≤ 100000 then some (.int x.length) else none
  | _ => none
theorem vcl_len : VCl K (fun xs H Q => ∃ x n, xs = [x] ∧ LenV K x H n ∧ Q (.int n) H) dLen := by
  intro G H x dx d Q g rx e q
  unfold dLen at e
  split at e
  · cases e
    cases rx with
    | cons r1 r2 =>
      cases r2
      cases r1 with
      | lst hs r => exact ⟨_, _, rfl, .inl ⟨_, g.seq hs, r.length.symm⟩, q _ G H (.refl g) (.int _)⟩
  · cases e
    cases rx with
    | cons r1 r2 =>
      cases r2
      cases r1 with
      | tup hs r => exact ⟨_, _, rfl, .inr ⟨_, sq_t g hs, r.length.symm⟩, q _ G H (.refl g) (.int _)⟩
  · split at e
    · rename_i hz
      cases e
      cases rx with
      | cons r1 r2 =>
        cases r2
        cases r1
        exact ⟨_, _, rfl, ⟨sz5 hz, rfl⟩, q _ G H (.refl g) (.int _)⟩
    · cases e
  · cases e
theorem call_lenG (hK : X.K = K) : CallR X (.builtin "len") (fun xs H Q => ∃ x n, xs = [x] ∧ LenV K x H n ∧ Q (.int n) H) := by subst hK; exact call_len
def dInt1 (f : Int → Option D) : List D → Option D
  | [.int i] => f i
  | _ => none
def dAbs : List D → Option D := dInt1 fun i => some (.int (if i < 0 then -i else i))
theorem vcl_abs : VCl K (fun xs H Q => ∃ i, xs = [.int i] ∧ Q (.int (if i < 0 then -i else i)) H) dAbs := by
  intro G H x dx d Q g rx e q
  unfold dAbs dInt1 at e
  split at e
  · cases e
    cases rx with
    | cons r1 r2 =>
      cases r2
      cases r1
      exact ⟨_, rfl, q _ G H (.refl g) (.int _)⟩
  · cases e
def dI2 (f : Int → Int → Int) : List D → Option D
  | [.int i, .int j] => some (.int (f i j))
  | _ => none
theorem vcl_i2 {f : Int → Int → Int} : VCl K (fun xs H Q => ∃ i j, xs = [.int i, .int j] ∧ Q (.int (f i j)) H) (dI2 f) := by
  intro G H x dx d Q g rx e q
  unfold dI2 at e
  split at e
  · cases e
    cases rx with
    | cons r1 r2 =>
      cases r2 with
      | cons r2 r3 =>
        cases r3
        cases r1
        cases r2
        exact ⟨_, _, rfl, q _ G H (.refl g) (.int _)⟩
  · cases e
def dMax2 : List D → Option D := dI2 fun i j => if j > i then j else i
def dMin2 : List D → Option D := dI2 fun i j => if j < i then j else i
def dIntC : List D → Option D
  | [.int i] => some (.int i)
  | [.bl k] => some (.int (if k then 1 else 0))
  | _ => none
theorem vcl_int : VCl K (fun xs H Q => (∃ i, xs = [.int i] ∧ Q (.int i) H) ∨ ∃ k, xs = [.bl k] ∧ Q (.int (if k then 1 else 0)) H) dIntC := by
  intro G H x dx d Q g rx e q
  unfold dIntC at e
  split at e
  · cases e
    cases rx with
    | cons r1 r2 =>
      cases r2
      cases r1
      exact .inl ⟨_, rfl, q _ G H (.refl g) (.int _)⟩
  · cases e
    cases rx with
    | cons r1 r2 =>
      cases r2
      cases r1
      exact .inr ⟨_, rfl, q _ G H (.refl g) (.int _)⟩
  · cases e
def dBoolC : List D → Option D
  | [.int i] => some (.bl (i != 0))
  | [.bl k] => some (.bl k)
  | _ => none
theorem vcl_bool : VCl K (fun xs H Q => (∃ i, xs = [.int i] ∧ Q (.bl (i != 0)) H) ∨ ∃ k, xs = [.bl k] ∧ Q (.bl k) H) dBoolC := by
  intro G H x dx d Q g rx e q
  unfold dBoolC at e
  split at e
  · cases e
    cases rx with
    | cons r1 r2 =>
      cases r2
      cases r1
      exact .inl ⟨_, rfl, q _ G H (.refl g) (.bl _)⟩
  · cases e
    cases rx with
    | cons r1 r2 =>
      cases r2
      cases r1
      exact .inr ⟨_, rfl, q _ G H (.refl g) (.bl _)⟩
  · cases e
def dStrI : List D → Option D := dInt1 fun i => if i.natAbs.log2 < 1920 then some (.str (toString i)) else none
theorem vcl_str : VCl K (fun xs H Q => ∃ i : Int, xs = [.int i] ∧ i.natAbs.log2 < 1920 ∧ Q (.str (toString i)) H) dStrI := by
  intro G H x dx d Q g rx e q
  unfold dStrI dInt1 at e
  split at e
  · dsimp only at e
    split at e
    · rename_i hz
      cases e
      cases rx with
      | cons r1 r2 =>
        cases r2
        cases r1
        exact ⟨_, rfl, hz, q _ G H (.refl g) (.str _)⟩
    · cases e
  · cases e
/-- ints of a list of data -/
def toInts : List D → Option (List Int)
  | [] => some []
  | .int i :: xs => (toInts xs).map (i :: ·)
  | _ :: _ => none
theorem Reps.toInts {G : Hp} : ∀ {vs : List V} {ds : List D} {ns : List Int}, Reps K G vs ds → Mr.toInts ds = some ns → vs = ns.map V.int
  | _, _, _, .nil, h => by cases h; rfl
  | _, _, _, .cons q r, h => by
    cases q <;> simp only [Mr.toInts, Option.map_eq_some_iff] at h <;> first | (cases h; done) | skip
    obtain ⟨ns, h1, rfl⟩ := h
    rw [Reps.toInts r h1]
    rfl
@[simp] theorem toInts_map (ns : List Int) : Mr.toInts (ns.map D.int) = some ns := by
  induction ns with
  | nil => rfl
  | cons n ns ih => simp [Mr.toInts, ih]
def dSum : List D → Option D
  | [.lst xs] => (toInts xs).map fun ns => .int ns.sum
  | _ => none
theorem vcl_sum : VCl K (rSum K) dSum := by
  intro G H x dx d Q g rx e q
  unfold dSum at e
  split at e
  · rw [Option.map_eq_some_iff] at e
    obtain ⟨ns, e, rfl⟩ := e
    cases rx with
    | cons r1 r2 =>
      cases r2
      cases r1 with
      | lst hs r =>
        have := r.toInts e
        subst this
        exact ⟨_, ns, rfl, g.seq hs, q _ G H (.refl g) (.int _)⟩
  · cases e
theorem call_sumG (hK : X.K = K) (hc : X.calm = true) : CallR X (.builtin "sum") (rSum K) := by subst hK; exact cr_sum hc
def toBools : List D → Option (List Bool)
  | [] => some []
  | .bl i :: xs => (toBools xs).map (i :: ·)
  | _ :: _ => none
theorem Reps.toBools {G : Hp} : ∀ {vs : List V} {ds : List D} {ns : List Bool}, Reps K G vs ds → Mr.toBools ds = some ns → vs = ns.map V.bl
  | _, _, _, .nil, h => by cases h; rfl
  | _, _, _, .cons q r, h => by
    cases q <;> simp only [Mr.toBools, Option.map_eq_some_iff] at h <;> first | (cases h; done) | skip
    obtain ⟨ns, h1, rfl⟩ := h
    rw [Reps.toBools r h1]
    rfl
@[simp] theorem toBools_map (ns : List Bool) : Mr.toBools (ns.map D.bl) = some ns := by
  induction ns with
  | nil => rfl
  | cons n ns ih => simp [Mr.toBools, ih]
def dAll : List D → Option D
  | [.lst xs] => (toBools xs).map fun ns => .bl (ns.all id)
  | _ => none
def dAny : List D → Option D
  | [.lst xs] => (toBools xs).map fun ns => .bl (ns.any id)
  | _ => none
theorem vcl_all : VCl K (rAll K) dAll := by
  intro G H x dx d Q g rx e q
  unfold dAll at e
  split at e
  · rw [Option.map_eq_some_iff] at e
    obtain ⟨ns, e, rfl⟩ := e
    cases rx with
    | cons r1 r2 =>
      cases r2
      cases r1 with
      | lst hs r =>
        have := r.toBools e
        subst this
        exact ⟨_, ns, rfl, g.seq hs, q _ G H (.refl g) (.bl _)⟩
  · cases e
theorem vcl_any : VCl K (rAny K) dAny := by
  intro G H x dx d Q g rx e q
  unfold dAny at e
  split at e
  · rw [Option.map_eq_some_iff] at e
    obtain ⟨ns, e, rfl⟩ := e
    cases rx with
    | cons r1 r2 =>
      cases r2
      cases r1 with
      | lst hs r =>
        have := r.toBools e
        subst this
        exact ⟨_, ns, rfl, g.seq hs, q _ G H (.refl g) (.bl _)⟩
  · cases e
theorem call_allG (hK : X.K = K) (hc : X.calm = true) : CallR X (.builtin "all") (rAll K) := by subst hK; exact cr_all hc
theorem call_anyG (hK : X.K = K) (hc : X.calm = true) : CallR X (.builtin "any") (rAny K) := by subst hK; exact cr_any hc
def dListOf : List D → Option D
  | [.lst xs] => some (.lst xs)
  | [.tup xs] => some (.lst xs)
  | _ => none
def rListOf (K : PySem.W.Frag) : List V → Hp → VK → Prop := fun xs H Q => ∃ p ys, xs = [.ref p] ∧ (SqL K H p ys ∨ SqT K H p ys) ∧ ∀ l, H l = none → Q (.ref l) (upd H l (.lst ys))
theorem vcl_listOf : VCl K (rListOf K) dListOf := by
  intro G H x dx d Q g rx e q
  unfold dListOf at e
  split at e
  · cases e
    cases rx with
    | cons r1 r2 =>
      cases r2
      cases r1 with
      | lst hs r => exact ⟨_, _, rfl, .inl (g.seq hs), fun p n => q _ _ _ (Tr0.new g n) (new_lst g n r)⟩
  · cases e
    cases rx with
    | cons r1 r2 =>
      cases r2
      cases r1 with
      | tup hs r => exact ⟨_, _, rfl, .inr (sq_t g hs), fun p n => q _ _ _ (Tr0.new g n) (new_lst g n r)⟩
  · cases e
theorem call_listG (hK : X.K = K) : CallR X (.type "list") (rListOf K) := by subst hK; exact call_list_of
def dTupOf : List D → Option D
  | [.lst xs] => some (.tup xs)
  | [.tup xs] => some (.tup xs)
  | _ => none
def rTupOf (K : PySem.W.Frag) : List V → Hp → VK → Prop := fun xs H Q => ∃ p ys, xs = [.ref p] ∧ ((SqL K H p ys ∧ ∀ l, H l = none → Q (.ref l) (upd H l (.tup ys))) ∨ (SqT K H p ys ∧ Q (.ref p) H))
theorem vcl_tupOf : VCl K (rTupOf K) dTupOf := by
  intro G H x dx d Q g rx e q
  unfold dTupOf at e
  split at e
  · cases e
    cases rx with
    | cons r1 r2 =>
      cases r2
      cases r1 with
      | lst hs r => exact ⟨_, _, rfl, .inl ⟨g.seq hs, fun p n => q _ _ _ (Tr0.new g n) (new_tup g n r)⟩⟩
  · cases e
    cases rx with
    | cons r1 r2 =>
      cases r2
      cases r1 with
      | tup hs r => exact ⟨_, _, rfl, .inr ⟨sq_t g hs, q _ G H (.refl g) (.tup hs r)⟩⟩
  · cases e
theorem call_tupG (hK : X.K = K) : CallR X (.type "tuple") (rTupOf K) := by subst hK; exact call_tuple_of
/-! isinstance -/
def tyD : D → Option String
  | .non => some "NoneType"
  | .bl _ => some "bool"
  | .int _ => some "int"
  | .str _ => some "str"
  | .lst _ => some "list"
  | .tup _ => some "tuple"
  | _ => none
theorem sqL_ty {H : Hp} {a : Addr} {xs : List V} (h : SqL K H a xs) : TyX K H (.ref a) (.type "list") := by
  rcases h with (h | ⟨o, h⟩) | ⟨o, its, n, h1, h2, _⟩
  · exact .base (.lst h)
  · exact .base (.frz h)
  · exact .kList h1 h2
theorem sqT_ty {H : Hp} {a : Addr} {xs : List V} (h : SqT K H a xs) : TyX K H (.ref a) (.type "tuple") := by
  rcases h with (h | ⟨o, h⟩) | ⟨o, its, n, h1, h2, _⟩
  · exact .base (.tup h)
  · exact .fTuple h
  · exact .kTuple h1 h2
theorem Rep.ty_of {H : Hp} {v : V} {d : D} {n : String} (g : Same G H) (r : Rep K G v d) (h : tyD d = some n) : TyX K H v (.type n) := by
  cases r with
  | non => cases h; exact .base .non
  | bl b => cases h; exact .base (.bl b)
  | int i => cases h; exact .base (.int i)
  | str x => cases h; exact .base (.str x)
  | lst hs r => cases h; exact sqL_ty (g.seq hs)
  | tup hs r => cases h; exact sqT_ty (sq_t g hs)
  | ref a => cases h
  | ty n => cases h
  | ins _ _ => cases h
  | dct _ _ => cases h
def clsNames : List D → Option (List String)
  | [] => some []
  | .ty n :: xs => (clsNames xs).map (n :: ·)
  | _ :: _ => none
theorem Reps.cls {G : Hp} : ∀ {vs : List V} {ds : List D} {ns : List String}, Reps K G vs ds → clsNames ds = some ns → Paired ClsV vs (ns.map Value.type)
  | _, _, _, .nil, h => by cases h; exact .nil
  | _, _, _, .cons q r, h => by
    cases q <;> simp only [clsNames, Option.map_eq_some_iff] at h <;> first | (cases h; done) | skip
    obtain ⟨ns, h1, rfl⟩ := h
    exact .cons (.ty _) (Reps.cls r h1)
def kitAnyB (a : String) : List String → Option Bool
  | [] => some false
  | b :: bs => match kitB a b with
    | some true => some true
    | some false => kitAnyB a bs
    | none => none
theorem kitAnyB_ok {a : String} : ∀ {bs : List String} {r : Bool}, kitAnyB a bs = some r → PySem.W.kitAny K (.type a) (bs.map Value.type) = some r
  | [], r, h => by cases h; exact kitAny_nil
  | b :: bs, r, h => by
    unfold kitAnyB at h
    split at h
    · rename_i e
      cases h
      exact kitAny_cons (kit_ty e) (fun z => by cases z) (fun _ => rfl)
    · rename_i e
      exact kitAny_cons (kit_ty e) (fun _ => kitAnyB_ok h) (fun z => by cases z)
    · cases h
def dIsI : List D → Option D
  | [x, .ty c] => match tyD x with
    | some n => (kitB n c).map .bl
    | none => none
  | _ => none
theorem call_isiG (hK : X.K = K) : CallR X (.builtin "isinstance") (rIsi K) := by subst hK; exact call_isi
theorem vcl_isI : VCl K (rIsi K) dIsI := by
  intro G H x dx d Q g rx e q
  unfold dIsI at e
  split at e
  · split at e
    · rename_i n en
      rw [Option.map_eq_some_iff] at e
      obtain ⟨b, eb, rfl⟩ := e
      cases rx with
      | cons r1 r2 =>
        cases r2 with
        | cons r2 r3 =>
          cases r3
          cases r2
          exact ⟨_, _, _, _, b, rfl, .ty _, r1.ty_of g en, kit_ty eb, q _ G H (.refl g) (.bl _)⟩
    · cases e
  · cases e
/-- isinstance(a, (C1, ..)) -/
def dIsT (x : D) (cs : List D) : Option D := match tyD x, clsNames cs with
  | some n, some ns => if cs.length ≤ 1000 then (kitAnyB n ns).map .bl else none
  | _, _ => none
def mIsT (O : Wo) (a : ME O) (cs : MA O) : ME O := fun ρ s => (a ρ s).bind fun x s1 => (cs ρ s1).bind fun ds s2 => R.lift (dIsT x ds) s2
theorem de_isT {a : Expr} {es : List Expr} {ta : TE} {tc : TA} {ma : ME O} {mc : MA O} {x1} {p p2 pos : Pos} (hm : X.mg "isinstance" = none) (ha : DE K O Wx X a ta ma) (hc : DA K O Wx X es tc mc) (hb : bootBuiltins "isinstance" = some (.builtin "isinstance") := by decide +kernel)
    (hg : Gl X "isinstance" := by rfl) (he : starEach [a, .Tuple es x1 p2] X.env = (false, eval a X.env) :: starEach [.Tuple es x1 p2] X.env := by rfl) (he2 : starEach [.Tuple es x1 p2] X.env = (false, eval (.Tuple es x1 p2) X.env) :: starEach [] X.env := by rfl)
    (hpl : (backTo pos (starEach [.Tuple es x1 p2] X.env)).any (·.1) = false := by rfl) :
    DE K O Wx X (.Call (.Name "isinstance" p) [a, .Tuple es x1 p2] [] pos) (tCB (rIsiT K) (tCons ta (tCons (tTup tc) tNil))) (mIsT O ma mc) := by
  refine ⟨ha.hK, ha.tk, ?_, fun σ ρ H0 G H s Q F h => ?_⟩
  · have := ha.hK
    subst this
    exact pe_callB call_isiT hg hm hb (pa_cons ha.pe (pa_cons (pe_tup hc.pe) pa_nil he2) he) (by decide) (by decide) he hpl
  · refine ha.sn σ ρ H0 G H s _ F (pst_bind h fun dx s1 _ x G1 H1 t1 k1 r1 h1 => ?_)
    have F1 := F.tr t1 k1
    refine hc.sn σ ρ H0 G1 H1 s1 _ F1 (pst_bind h1 fun ds s2 _ cs G2 H2 t2 k2 r2 h2 => ?_)
    have F2 := F1.tr t2 k2
    obtain ⟨d, e, q⟩ := pst_lift F2 h2
    unfold dIsT at e
    split at e
    · rename_i n ns en ens
      split at e
      · rename_i hz
        rw [Option.map_eq_some_iff] at e
        obtain ⟨b, eb, rfl⟩ := e
        refine ⟨by rw [r2.length]; exact sz5 (by omega), fun tp ntp => ?_⟩
        have tr := Tr0.new (o := .tup cs) F2.gh ntp
        exact ⟨x, tp, cs, .type n, ns.map Value.type, b, rfl, upd_same, r2.cls ens, ((r1.mono t2.gg).mono tr.gg).ty_of tr.gh en, kitAnyB_ok eb, q _ _ _ tr (.bl _)⟩
      · cases e
    · cases e
end
end Mr

namespace Mr
open PySem PySem.Spec PyProof.Rows L2 RZ
/-! ### f-strings whose text does not matter -/
/-- what may stand in a field: a text, an int, a tuple of ints -/
def FmtV (K : PySem.W.Frag) (x : V) (H : Hp) : Prop :=
  (∃ y : Str, x = .str y ∧ y.length ≤ 20000) ∨ (∃ i : Int, x = .int i ∧ i.natAbs.log2 < 1920) ∨
    ∃ (a : Addr) (ns : List Int), x = .ref a ∧ SqT K H a (ns.map V.int) ∧ ns.length ≤ 8 ∧ ∀ n ∈ ns, n.natAbs.log2 < 1920
def tFmtG (K : PySem.W.Frag) (te : TE) : TE := fun σ H Q => te σ H fun x H1 => FmtV K x H1 ∧ ∀ m : Str, m.length ≤ 20000 → Q (.str m) H1
theorem piled_ints : ∀ ns : List Int, (∀ n ∈ ns, n.natAbs.log2 < 1920) → piled (ns.map fun n => Str.ofString (toString n)) ≤ ns.length * 1923
  | [], _ => Nat.zero_le _
  | n :: ns, h => by
    have h1 := int_text_len_1921 (h n List.mem_cons_self)
    have h2 := piled_ints ns fun m hm => h m (List.mem_cons_of_mem _ hm)
    rw [List.map_cons, piled_cons, List.length_cons]
    omega
theorem repr_ints {prog : Program} {w : World} : ∀ {ns : List Int} {its : List Value}, Vals (ns.map V.int) its → (∀ n ∈ ns, n.natAbs.log2 < 1920) → ReprAll prog w its (ns.map fun n => Str.ofString (toString n))
  | [], _, r, _ => by
    cases r
    exact .nil
  | n :: l, _, r, h => by
    cases r with
    | cons r1 r2 =>
      obtain ⟨t, rfl⟩ := r1
      exact .cons (ReprIs.int t (h n List.mem_cons_self)) (repr_ints r2 fun z hz => h z (List.mem_cons_of_mem _ hz))
theorem pe_fmtG {X : Cx} {K : PySem.W.Frag} {e : Expr} {te : TE} {pos : Pos} {k : Nat} (hK : X.K = K) (hr : Room k X.A) (he : PE X e te) : PE X (.FormattedValue e (-1) none pos) (tFmtG K te) := by
  subst hK
  refine ⟨fun pins s σ H Q I h => ?_⟩
  refine wpAny_FormattedValue_plain (thn (he.run pins s σ H _ I h) fun v s1 hv => ?_)
  obtain ⟨x, H1, I1, r1, fv, q⟩ := hv
  have h20 : 20000 ≤ sizeLine := by decide
  rcases fv with ⟨y, rfl, hz⟩ | ⟨i, rfl, hz⟩ | ⟨a, ns, rfl, ht, hl, hn⟩
  · obtain ⟨t, rfl⟩ := r1
    exact wpAny_formatField_str ⟨.str y, H1, I1, ⟨t, rfl⟩, q y hz⟩ ⟨.str y, H1, I1.tok _, ⟨_, rfl⟩, q y hz⟩ (Nat.le_trans hz h20)
  · obtain ⟨t, rfl⟩ := r1
    exact wpAny_formatField_int hz ⟨.str (toString i), H1, I1.tok _, ⟨_, rfl⟩, q _ (Nat.le_trans (int_text_len_1921 hz) (by decide))⟩
  · cases r1
    obtain ⟨its, rv, ⟨o, ho, hcl, n, hd⟩, _⟩ := I1.tuple ht
    have hp := piled_ints ns hn
    have htx := fmt_text (ns.map fun n => Str.ofString (toString n))
    have hu := hr.units
    refine fmt_tuple (ts := ns.map fun n => Str.ofString (toString n)) (by omega) ho hcl hd (repr_ints rv hn) (by omega) fun m u tk hm => ⟨.str m, H1, I1.tok _, ⟨u, rfl⟩, q m (by omega)⟩
/-- a part of an f-string that gives some text -/
def PartOk (t : TE) (σ : L2.St) (H : Hp) : Prop := ∀ Q : VK, (∀ m : Str, m.length ≤ 20000 → Q (.str m) H) → t σ H Q
theorem part_c {x : Str} {σ : L2.St} {H : Hp} (h : x.length ≤ 20000) : PartOk (tC (.str x)) σ H := fun Q q => q x h
theorem part_v {K : PySem.W.Frag} {i : Nat} {v : V} {σ : L2.St} {H : Hp} (e : σ[i]? = some (some v)) (f : FmtV K v H) : PartOk (tFmtG K (tVar i)) σ H := fun Q q => ⟨v, e, f, q⟩
theorem js_ok {σ : L2.St} {H : Hp} {Q : Str → Hp → Prop} : ∀ {ts : List TE} {acc : Str}, (∀ t ∈ ts, PartOk t σ H) → acc.length + 20000 * ts.length ≤ 200000 → (∀ m : Str, m.length ≤ 200000 → Q m H) → tJs ts acc σ H Q
  | [], acc, _, hz, q => q acc (by simpa using hz)
  | t :: ts, acc, h, hz, q => h t List.mem_cons_self _ fun m hm => by
    have e : (acc ++ m).length = acc.length + m.length := strLen_append _ _
    rw [List.length_cons] at hz
    refine ⟨m, rfl, Nat.le_trans (show (acc ++ m).length ≤ 200000 by omega) (by decide), js_ok (fun t ht => h t (List.mem_cons_of_mem _ ht)) (by omega) q⟩
/-! ### the package's errors -/
/-- the base class, at L -/
structure LcT (K : PySem.W.Frag) (mg : Str → Option Value) (L : Addr) : Prop where
  gL : mg "LateCopyError" = some (.ref L)
  rd : PySem.W.readsIn K L (.type "type") = true
  fc : PySem.W.findCls K (.ref L) (.type "type") "__init__" = some (.val (.builtin "ValueError.__init__"))
  sp : PySem.W.specialIn K (.ref L) "__getattribute__" = some (some (.builtin "type.__getattribute__"))
theorem pe_lcinit {X : Cx} {K : PySem.W.Frag} {L : Addr} {e : Expr} {es : List Expr} {ta : TA} {p1 p2 pos : Pos} {pl : Sem Bool} (hK : X.K = K) (T : LcT K X.mg L) (ha : PA X (e :: es) ta) (hg : Gl X "LateCopyError" := by rfl)
    (hc : eval (.Call (.Attribute (.Name "LateCopyError" p1) "__init__" p2) (e :: es) [] pos) X.env = (do
      let ov ← eval (.Name "LateCopyError" p1) X.env
      standAt p2.atName
      let (f, first) ← holding [ov] (getMethod ov "__init__" pl)
      callWith pos f first (backTo pos (starEach (e :: es) X.env)) (backToKw pos (keywordEach [] X.env))) := by rfl)
    (he : starEach (e :: es) X.env = (false, eval e X.env) :: starEach es X.env := by rfl) (hpl : (backTo pos (starEach es X.env)).any (·.1) = false := by rfl) :
    PE X (.Call (.Attribute (.Name "LateCopyError" p1) "__init__" p2) (e :: es) [] pos) (tVeI K ta) := by
  subst hK
  refine ⟨fun pins s σ H Q I h => ?_⟩
  refine PySem.W.methodCall_KW (ld_glob I hg T.gL ?_ (by decide)) hc
  refine PySem.W.method_cls I.kIn T.sp (PySem.W.cls_value I.kIn T.rd T.fc (by decide +kernel) ?_)
  show wpAny _ _ (callWith pos (Value.builtin "ValueError.__init__") [] (backTo pos (starEach (e :: es) X.env)) []) _ _ _
  refine PyProof.Rows.callWith_method1 (thn (ha.run pos pins _ σ H _ (I.tok _) h) fun us s1 ⟨vs, H1, I1, r1, a, C, ws, ev, hl, T, ea, q⟩ => ?_) he hpl
  subst ev
  cases r1 with
  | @cons _ u0 _ ur ra rw' =>
    obtain rfl : u0 = Value.ref a := ra
    have hlen : ur.length ≤ sizeLine := by
      rw [← Paired.length rw', sizeLine_eq]
      omega
    exact oinit_ok T I1 ea hlen fun s' J => ⟨.non, H1, J, rfl, q⟩
/-- an error's __init__(self, f1, ..): the fields are stored -/
def spIni (K : PySem.W.Frag) (C : Addr) (fs : List Str) : Sp := fun vs H Q _ => ∃ (a : Addr) (ws : List V), vs = .ref a :: ws ∧ ws.length = fs.length ∧ H a = some (exo a C none) ∧ (∀ v ∈ ws, FmtV K v H) ∧
  ∀ (dx : Addr) (H' : Hp), H dx = none → dx ≠ a → (∀ b, b ≠ a → b ≠ dx → H' b = H b) → H' a = some (exo a C (some dx)) → H' dx = some (exd dx (fs.zip ws).reverse) → Q .non H'
/-- what the written part says of an error class -/
structure ErT (P : Program) (w : World) (K : PySem.W.Frag) (mg : Str → Option Value) (base : Heap) (x : Str) (C : Addr) (fs : List Str) : Prop where
  gC : mg x = some (.ref C)
  T : OexC K C
  xf : XfC K C
  no : ∀ f ∈ fs, PySem.W.findIn K (.ref C) f = some none
  ini : ∃ fI fd, PySem.W.findIn K (.ref C) "__init__" = some (some (.ref fI)) ∧ PySem.W.typeIn K (.ref fI) = some (.type "function") ∧ FnOk P w K mg base CX0 1 fI fd ("self" :: fs) (spIni K C fs) ∧ Binds K fd ("self" :: fs) []
section
variable {P : Program} {w : World} {K : PySem.W.Frag} {mg : Str → Option Value} {base : Heap} {C L : Addr}
theorem init1_read {f : Str} {ts : List TE} {v : V} {a : Addr} {H : Hp} {Q : VK} {E : XK} {σ : L2.St} (T : OexC K C) (hno : PySem.W.findIn K (.ref C) f = some none) (es : σ[0]? = some (some (.ref a))) (ev : σ[1]? = some (some v)) (ea : H a = some (exo a C none)) (hp : ∀ t ∈ ts, PartOk t σ H) (hl : ts.length ≤ 10)
    (q : ∀ (dx : Addr) (H' : Hp), H dx = none → dx ≠ a → (∀ b, b ≠ a → b ≠ dx → H' b = H b) → H' a = some (exo a C (some dx)) → H' dx = some (exd dx [(f, v)]) → Q .non H') :
    tSeq (tDrop (tVeI K (tCons (tVar 0) (tCons (fun σ H Q => tJs ts Str.empty σ H fun out H1 => Q (.str out) H1) tNil)))) (tOst K f (tVar 0) (tVar 1)) { nx := fun _ H' => Q .non H', rt := Q } σ H := by
  refine ⟨.ref a, es, js_ok hp (by show 0 + 20000 * ts.length ≤ 200000; omega) fun m hm => ?_⟩
  refine ⟨a, C, [.str m], rfl, Nat.le_of_ble_eq_true rfl, T, ea, ?_⟩
  refine ⟨v, ev, .ref a, es, a, C, rfl, T, hno, .inl ⟨ea, fun dx nd ne => ?_⟩⟩
  refine q dx _ nd ne (fun b b1 b2 => by rw [upd_ne b1, upd_ne b2]) upd_same (by rw [upd_ne ne, upd_same])
theorem init2_read {f g : Str} {ts : List TE} {v u : V} {a : Addr} {H : Hp} {Q : VK} {E : XK} {σ : L2.St} (T : OexC K C) (hno : PySem.W.findIn K (.ref C) f = some none) (hno2 : PySem.W.findIn K (.ref C) g = some none) (es : σ[0]? = some (some (.ref a))) (ev : σ[1]? = some (some v)) (eu : σ[2]? = some (some u)) (ea : H a = some (exo a C none)) (hp : ∀ t ∈ ts, PartOk t σ H) (hl : ts.length ≤ 10)
    (q : ∀ (dx : Addr) (H' : Hp), H dx = none → dx ≠ a → (∀ b, b ≠ a → b ≠ dx → H' b = H b) → H' a = some (exo a C (some dx)) → H' dx = some (exd dx [(g, u), (f, v)]) → Q .non H') :
    tSeq (tDrop (tVeI K (tCons (tVar 0) (tCons (fun σ H Q => tJs ts Str.empty σ H fun out H1 => Q (.str out) H1) tNil)))) (tSeq (tOst K f (tVar 0) (tVar 1)) (tOst K g (tVar 0) (tVar 2))) { nx := fun _ H' => Q .non H', rt := Q } σ H := by
  refine ⟨.ref a, es, js_ok hp (by show 0 + 20000 * ts.length ≤ 200000; omega) fun m hm => ?_⟩
  refine ⟨a, C, [.str m], rfl, Nat.le_of_ble_eq_true rfl, T, ea, ?_⟩
  refine ⟨v, ev, .ref a, es, a, C, rfl, T, hno, .inl ⟨ea, fun dx nd ne => ?_⟩⟩
  refine ⟨u, eu, .ref a, es, a, C, rfl, T, hno2, .inr ⟨dx, [(f, v)], upd_same, by rw [upd_ne ne, upd_same], Nat.le_of_ble_eq_true rfl, ?_⟩⟩
  refine q dx _ nd ne (fun b b1 b2 => by rw [upd_ne b2, upd_ne b1, upd_ne b2]) (by rw [upd_ne ne.symm, upd_same]) upd_same
end
/-! ### raise, try -/
section
variable {K : PySem.W.Frag} {O : Wo} {Wx : WX} {X : Cx} {G0 H0 G H G1 H1 : Hp} {σ : L2.St} {ρ : Ev} {s s1 : O.S}
def fmtD : D → Bool
  | .str y => decide (y.length ≤ 20000)
  | .int i => decide (i.natAbs.log2 < 1920)
  | .tup xs => match toInts xs with
    | some ns => decide (ns.length ≤ 8) && ns.all fun n => decide (n.natAbs.log2 < 1920)
    | none => false
  | _ => false
theorem fmt_ok {H : Hp} {v : V} {d : D} (g : Same G H) (r : Rep K G v d) (h : fmtD d = true) : FmtV K v H := by
  cases r with
  | str y => exact .inl ⟨y, rfl, of_decide_eq_true h⟩
  | int i => exact .inr (.inl ⟨i, rfl, of_decide_eq_true h⟩)
  | tup hs r =>
    simp only [fmtD] at h
    split at h
    · rename_i ns e
      have := r.toInts e
      subst this
      rw [Bool.and_eq_true, List.all_eq_true] at h
      exact .inr (.inr ⟨_, ns, rfl, sq_t g hs, of_decide_eq_true h.1, fun n hn => of_decide_eq_true (h.2 n hn)⟩)
    · cases h
  | _ => cases h
theorem Reps.mem {vs : List V} {ds : List D} (r : Reps K G vs ds) : ∀ v ∈ vs, ∃ d ∈ ds, Rep K G v d := by
  induction vs generalizing ds with
  | nil => intro v h; cases h
  | cons w vs ih =>
    cases r with
    | cons q r =>
      intro v h
      rcases List.mem_cons.mp h with e | e
      · subst e; exact ⟨_, List.mem_cons_self, q⟩
      · obtain ⟨d, h1, h2⟩ := ih r v e
        exact ⟨d, List.mem_cons_of_mem _ h1, h2⟩
theorem repF_zip : ∀ {fs : List Str} {vs : List V} {ds : List D}, Reps K G vs ds → RepF K G (fs.zip vs) (fs.zip ds)
  | [], _, _, _ => by simp; exact .nil
  | _ :: _, _, _, .nil => by simp; exact .nil
  | f :: fs, _, _, .cons q r => .cons q (repF_zip r)
theorem RepF.append : ∀ {a b : List (Str × V)} {c d : List (Str × D)}, RepF K G a c → RepF K G b d → RepF K G (a ++ b) (c ++ d)
  | _, _, _, _, .nil, r => r
  | _, _, _, _, .cons h r, q => .cons h (r.append q)
theorem RepF.reverse {a : List (Str × V)} {c : List (Str × D)} (r : RepF K G a c) : RepF K G a.reverse c.reverse := by
  induction a generalizing c with
  | nil => cases r; exact .nil
  | cons p a ih =>
    cases r with
    | cons h r =>
      rw [List.reverse_cons, List.reverse_cons]
      exact (ih r).append (.cons h .nil)
theorem RepF.look : ∀ {a : List (Str × V)} {c : List (Str × D)} {f : Str} {d : D}, RepF K G a c → c.lookup f = some d → ∃ v, a.lookup f = some v ∧ Rep K G v d
  | _, _, f, d, .nil, h => by cases h
  | (g, v) :: a, (_, e) :: c, f, d, .cons h r, q => by
    rw [lookup_put]
    by_cases hf : f = g
    · subst hf
      rw [if_pos rfl]
      have : List.lookup f ((f, e) :: c) = some e := by simp [List.lookup]
      rw [this] at q
      cases q
      exact ⟨v, rfl, h⟩
    · rw [if_neg hf]
      have e2 : (f == g) = false := by simpa using hf
      have : List.lookup f ((g, e) :: c) = List.lookup f c := by simp [List.lookup, e2]
      rw [this] at q
      exact RepF.look r q
/-- raise X(e, ..) -/
def mRaise (O : Wo) (C : Addr) (fs : List Str) (m : MA O) : MS O := fun ρ s => toS (m ρ s) ρ fun ds s1 => if ds.length = fs.length ∧ fs.length ≤ 100 ∧ ds.all fmtD = true then .err C (fs.zip ds).reverse ρ s1 else .bad
theorem ds_raise {x : Str} {C : Addr} {fs : List Str} {e : Expr} {es : List Expr} {ta : TA} {ma : MA O} {p pos pos2 : Pos} {j : Nat} (c : Cs K Wx X) (T : ErT X.prog X.w K X.mg X.base x C fs) (hr : Room j X.A) (hj : 2 ≤ j) (ha : DA K O Wx X (e :: es) ta ma) (hg : Gl X x := by rfl)
    (hdb : (x == ("__debug__" : Str)) = false := by decide) (he : starEach (e :: es) X.env = (false, eval e X.env) :: starEach es X.env := by rfl) (hpl : (backTo pos (starEach es X.env)).any (·.1) = false := by rfl) :
    DS K O Wx X (.Raise (some (.Call (.Name x p) (e :: es) [] pos)) none pos2) (fun _ σ H => tMkO C (spIni K C fs) [] ta σ H fun cls d H' => Wx cls d σ H') (mRaise O C fs ma) := by
  obtain ⟨fI, fd, iC, tI, F1, hb⟩ := T.ini
  refine ⟨?_, fun G0 H0 σ ρ G H s Dn F h => ?_⟩
  · have := c.cn.hK
    subst this
    exact ps_raise c.hc c.cn.tk (pmk_oex T.T iC tI F1 (hr.mono hj) hb .nil pass0 hg T.gC ha.pe hdb he hpl)
  · refine ha.sn σ ρ H0 G H s _ F.fm (pst_toS F h fun ds s1 _ vs G1 H1 t1 k1 r1 h1 => ?_)
    have F1 := F.go t1 k1
    split at h1
    · rename_i hc
      obtain ⟨hl, h100, hf⟩ := hc
      have hz : vs.length = fs.length := r1.length.trans hl
      refine ⟨by rw [hz]; omega, fun a na => ⟨a, vs, by rw [List.append_nil], hz, upd_same, fun v hv => ?_, fun dx H' nd ne hk ea ed => ⟨rfl, dx, (fs.zip vs).reverse, ea, ed, ?_, ?_⟩⟩⟩
      · obtain ⟨d, hd, rd⟩ := r1.mem v hv
        have t := Tr0.hid (o := exo a C none) F1.fm.gh na
        exact fmt_ok t.gh (rd.mono t.gg) (List.all_eq_true.mp hf d hd)
      · rw [upd_ne ne] at nd
        exact nd
      · rw [upd_ne ne] at nd
        -- the heap behind: G1 as it stands; the error's dict is new
        have hH : ∀ b o, H1 b = some o → (upd (del H' a) dx (.xd (fs.zip vs).reverse)) b = some o := fun b o e => by
          have b1 : b ≠ a := ne_of_none e na
          have b2 : b ≠ dx := ne_of_none e nd
          rw [upd_ne b2, del_ne b1, hk b b1 b2, upd_ne b1]
          exact e
        have t2 : Tr0 G1 H1 G1 (upd (del H' a) dx (.xd (fs.zip vs).reverse)) := ⟨Same.refl _, fun b o e => hH b o (F1.fm.gh b o e), fun b o e => .inl e, fun b o _ e => hH b o e, fun b e => by
          cases q : H1 b with
          | none => rfl
          | some o => rw [hH b o q] at e; cases e⟩
        have k2 := F1.fm.keepW t2
        have nW : ¬ O.W dx := fun w => O.dom s1 H1 dx k1 w nd
        exact h1 σ dx _ G1 _ (Same.refl _) (F1.go t2.up k2) upd_same nW (repF_zip r1).reverse
    · exact (show False from h1).elim
/-- the world with an exception in hand -/
def Wo.hold (O : Wo) (a : Addr) (cls : Value) (d : Option Addr) : Wo := { O with ec := fun a' dd c => a' = a ∧ d = some dd ∧ cls = .ref c }
def noExc : Sl → Bool
  | .exc _ _ => false
  | _ => true
theorem slok_hold {a : Addr} {cls : Value} {d : Option Addr} {o : Option V} {x : Sl} (hx : noExc x = true) : SlOk K (O.hold a cls d) H0 G H o x ↔ SlOk K O H0 G H o x := by
  cases x <;> first | exact Iff.rfl | cases hx
/-- .. out of the suite: slot i is empty, and no other one holds an exception -/
theorem Fs.unhold {a : Addr} {cls : Value} {d : Option Addr} {i : Nat} (f : Fs K (O.hold a cls d) G0 H0 σ ρ G H s) (hn : (ρ.set i .no).all noExc = true) : Fs K O G0 H0 (σ.set i none) (ρ.set i .no) G H s := by
  have f1 := f.fm.clr i
  refine ⟨⟨f1.gh, f1.wg, f1.ok, f1.len, fun j o x e1 e2 => ?_, f1.ds⟩, f.tr⟩
  exact (slok_hold (List.all_eq_true.mp hn x (List.mem_of_getElem? e2))).mp (f1.sl j o x e1 e2)
theorem Fs.unhold0 {a : Addr} {cls : Value} {d : Option Addr} (f : Fs K (O.hold a cls d) G0 H0 σ ρ G H s) (hn : ρ.all noExc = true) : Fs K O G0 H0 σ ρ G H s :=
  ⟨⟨f.fm.gh, f.fm.wg, f.fm.ok, f.fm.len, fun j o x e1 e2 => (slok_hold (List.all_eq_true.mp hn x (List.mem_of_getElem? e2))).mp (f.fm.sl j o x e1 e2), f.fm.ds⟩, f.tr⟩
theorem Fs.hold {i : Nat} {a dd c : Addr} {fs : List (Str × D)} {xs : List (Str × V)} (f : Fs K O G0 H0 σ ρ G H s) (hn : ρ.all noExc = true) (hd : H dd = some (.xd xs)) (nW : ¬ O.W dd) (r : RepF K G xs fs) :
    Fs K (O.hold a (.ref c) (some dd)) G0 H0 (σ.set i (some (.ref a))) (ρ.set i (.exc c fs)) G H s := by
  refine ⟨⟨f.fm.gh, f.fm.wg, f.fm.ok, by simpa using f.fm.len, fun j o x e1 e2 => ?_, fun j k p x y hjk e1 e2 c1 c2 e3 => ?_⟩, f.tr⟩
  · by_cases hj : i = j
    · subst hj
      have h1 := (List.getElem?_eq_some_iff.mp e1).1
      have h2 := (List.getElem?_eq_some_iff.mp e2).1
      rw [List.length_set] at h1 h2
      rw [List.getElem?_set_self h1] at e1
      rw [List.getElem?_set_self h2] at e2
      cases e1; cases e2
      exact ⟨a, dd, xs, rfl, ⟨rfl, rfl, rfl⟩, hd, r, nW⟩
    · rw [List.getElem?_set_ne hj] at e1 e2
      exact (slok_hold (List.all_eq_true.mp hn x (List.mem_of_getElem? e2))).mpr (f.fm.sl j o x e1 e2)
  · by_cases hj : i = j
    · subst hj
      have h2 := (List.getElem?_eq_some_iff.mp e1).1
      rw [List.length_set] at h2
      rw [List.getElem?_set_self h2] at e1
      cases e1
      cases c1
    · by_cases hk : i = k
      · subst hk
        have h2 := (List.getElem?_eq_some_iff.mp e2).1
        rw [List.length_set] at h2
        rw [List.getElem?_set_self h2] at e2
        cases e2
        cases c2
      · rw [List.getElem?_set_ne hj] at e1 e3
        rw [List.getElem?_set_ne hk] at e2
        rw [List.getElem?_set_ne hk]
        exact f.fm.ds j k p x y hjk e1 e2 c1 c2 e3
theorem Fs.hold0 {a dd c : Addr} (f : Fs K O G0 H0 σ ρ G H s) (hn : ρ.all noExc = true) : Fs K (O.hold a (.ref c) (some dd)) G0 H0 σ ρ G H s :=
  ⟨⟨f.fm.gh, f.fm.wg, f.fm.ok, f.fm.len, fun j o x e1 e2 => (slok_hold (List.all_eq_true.mp hn x (List.mem_of_getElem? e2))).mpr (f.fm.sl j o x e1 e2), f.fm.ds⟩, f.tr⟩
/-- e.f in a suite: e is slot i's exception, of the class at C -/
def mXf (O : Wo) (i : Nat) (C : Addr) (f : Str) : ME O := fun ρ s => match ρ[i]? with
  | some (.exc c fs) => if c = C then R.lift (fs.lookup f) s else .bad
  | _ => .bad
theorem de_xf (i : Nat) {a C : Addr} {oe : Obj} {cls : Value} {d : Option Addr} {pn : List (Addr × Obj)} {x f : Str} {p pos : Pos} (cn : Cn K WF (X.suite a ((a, oe) :: pn))) (T : XfC K C) (hno : PySem.W.findIn K (.ref C) f = some none) (hz : Zc cls d oe) (hf : ∃ vs, oe.data = .fields vs)
    (hN : X.N[i]? = some x := by rfl) (hv : Vis X.env.scope x := by first | exact Or.inl rfl | exact Or.inr (Or.inl rfl) | exact Or.inr (Or.inr rfl)) (hd : (x == ("__debug__" : Str)) = false := by decide) (hcd : (x == ("__classdict__" : Str)) = false := by decide)
    (hb : attributeBase (.Name x p) f X.env (eval (.Name x p) X.env) = eval (.Name x p) X.env := by rfl) :
    DE K (O.hold a cls d) WF (X.suite a ((a, oe) :: pn)) (.Attribute (.Name x p) f pos) (tXf a cls d C f (tVar i)) (mXf O i C f) := by
  refine ⟨cn.hK, cn.tk, ?_, fun σ ρ H0 G H s Q F h => ?_⟩
  · have hk : X.K = K := cn.hK
    subst hk
    exact pe_xf (X := X) T hno hz hf (pe_var (X := X.suite a ((a, oe) :: pn)) hN hv hd hcd) hb
  · unfold mXf at h
    split at h
    · rename_i c fs ei
      obtain ⟨o, eo, a', dd, xs, rfl, ⟨rfl, rfl, rfl⟩, hdd, r, nW⟩ := F.at ei
      split at h
      · rename_i ec
        subst ec
        cases el : fs.lookup f with
        | none => rw [el] at h; exact (show False from h).elim
        | some y =>
          rw [el] at h
          obtain ⟨v, ev, rv⟩ := r.look el
          exact ⟨_, eo, rfl, rfl, dd, xs, v, rfl, hdd, ev, h v G H (.refl F.gh) F.ok rv⟩
      · exact (show False from h).elim
    · exact (show False from h).elim
/-- a wish that every try's body has -/
abbrev lookX (X : Cx) : Value → Shared → Prop := fun e s₁ => wpAny (model X.prog X.w) X.A (noteFrame e X.env) (fun _ s₂ => wpAny (model X.prog X.w) X.A (setFlight e none) (fun _ _ => True) X.xe s₂) X.xe s₁
theorem looks_takes {W : WX} {pn : List (Addr × Obj)} (hs : X.stack = X.env :: X.outer) (hf : X.env.frame = some X.env.locals) : Takes (X.tr pn (lookX X)) W := fun u s' xx => by
  obtain ⟨a, B, sI, pins', σ', H', cls, d, rfl, J', nb, up, sky, na, os, ag, w⟩ := xx
  have hfr : X.A.frames = some (X.env :: X.outer) := by rw [← hs]; exact J'.ok.frames
  have sky' : Sky B (X.env :: X.outer) a (Zc cls d) X.env.locals s'.heap := by rw [← hs]; exact sky
  exact Sky.land Zc.steady hfr hf sky' fun h3 fl3 up3 => trivial
def clrS {S : Type} (i : Nat) : RS S → RS S
  | .nx ρ s => if (ρ.set i .no).all noExc = true then .nx (ρ.set i .no) s else .bad
  | .bk ρ s => if (ρ.set i .no).all noExc = true then .bk (ρ.set i .no) s else .bad
  | .ct ρ s => if (ρ.set i .no).all noExc = true then .ct (ρ.set i .no) s else .bad
  | .rt d s => .rt d s
  | _ => .bad
/-- try: .. except x as n: ..  (mt: whether a class is caught) -/
def mTryAs (O : Wo) (mt : Addr → Option Bool) (i : Nat) (mb ms : MS O) : MS O := fun ρ s => match mb ρ s with
  | .err c fs ρ1 s1 => match mt c with
    | some true => if ρ1.all noExc = true then clrS i (ms (ρ1.set i (.exc c fs)) s1) else .bad
    | some false => .err c fs ρ1 s1
    | none => .bad
  | r => r
theorem ds_tryAs (i : Nat) {x n : Str} {cv : Value} {mt : Addr → Option Bool} {body suite : List Stmt} {b0 : Stmt} {np pos pos' : Pos} {tb : WX → TS} {ts : Addr → Value → Option Addr → TS} {mb ms : MS O} (c : Cs K Wx X) (hm : ∀ c b, mt c = some b → PySem.W.exmOne K (.ref c) cv = some b) (hc : Names X x cv)
    (hb : ∀ (W : WX) (pn : List (Addr × Obj)) (xe : Value → Shared → Prop), Cs K W (X.tr pn xe) → DB K O W (X.tr pn xe) body (tb W) mb)
    (hsu : ∀ (a : Addr) (oe : Obj) (cls : Value) (d : Option Addr) (pn : List (Addr × Obj)), Zc cls d oe → (∃ vs, oe.data = .fields vs) → Cn K WF (X.suite a ((a, oe) :: pn)) → DB K (O.hold a cls d) WF (X.suite a ((a, oe) :: pn)) (b0 :: suite) (ts a cls d) ms)
    (hs : X.stack = X.env :: X.outer := by rfl) (hf : X.env.frame = some X.env.locals := by rfl) (hi : X.N[i]? = some n := by rfl) (hln : X.env.kindOf n = some .local := by rfl) (oe0 : Obj := { cls := .none, data := .fields #[] }) :
    DS K O Wx X (.Try body [.ExceptHandler (some (.Name x np)) (some n) (b0 :: suite) pos'] [] [] pos) (fun D σ H => tb (wAs K cv i ts Wx D) D σ H) (mTryAs O mt i mb ms) := by
  have cs : ∀ (a : Addr) (oe : Obj) (pn : List (Addr × Obj)), Cn K WF (X.suite a ((a, oe) :: pn)) := fun a oe pn => ⟨c.cn.hK, takes0⟩
  have ct : ∀ (W : WX) (pn : List (Addr × Obj)) (xe : Value → Shared → Prop), Takes (X.tr pn xe) W → PassesOwn (model X.prog X.w) X.A X.env xe → Cs K W (X.tr pn xe) := fun W pn xe tk po => ⟨⟨c.cn.hK, tk⟩, po, c.hc, c.nd⟩
  refine ⟨?_, fun G0 H0 σ ρ G H s Dn F h => ?_⟩
  · have hk : X.K = K := c.cn.hK
    subst hk
    exact ps_try_as hs hf c.nd hi hln hc c.cn.tk (fun W pn xe tk po => (hb W pn xe (ct W pn xe tk po)).pe) (fun a oe cls d pn hz hfv => (hsu a oe cls d pn hz hfv (cs a oe pn)).pe)
  · have sb : SndS K O (wAs K cv i ts Wx Dn) (tb (wAs K cv i ts Wx Dn)) mb := (hb _ [] _ (ct _ [] (lookX X) (looks_takes hs hf) PassesOwn.looking)).sn
    refine sb G0 H0 σ ρ G H s Dn F ?_
    unfold mTryAs at h
    revert h
    cases mb ρ s with
    | nx ρ s => exact fun h => h
    | bk ρ s => exact fun h => h
    | ct ρ s => exact fun h => h
    | rt d s => exact fun h => h
    | bad => exact fun h => h
    | err c' fs ρ1 s1 =>
      intro h σ' dd xs G' H' e F' hdd nW r
      dsimp only at h
      split at h
      · rename_i em
        refine ⟨true, hm _ _ em, fun _ a na => ?_, fun z => by cases z⟩
        split at h
        · rename_i hn
          have ss := (hsu a { cls := .ref c', dict := some dd, data := .fields #[] } (.ref c') (some dd) [] ⟨rfl, rfl⟩ ⟨_, rfl⟩ (cs ..)).sn
          refine ss G0 H0 _ _ G' H' s1 _ (F'.hold hn hdd nW r) ?_
          have h2 := PstS.shift e h
          revert h2
          cases ms (ρ1.set i (.exc c' fs)) s1 with
          | nx ρ2 s2 =>
            intro h2 σ2 G2 H2 e2 F2
            simp only [clrS] at h2
            split at h2
            · rename_i hn2; exact h2 _ G2 H2 e2 (F2.unhold hn2)
            · exact h2.elim
          | bk ρ2 s2 =>
            intro h2 σ2 G2 H2 e2 F2
            simp only [clrS] at h2
            split at h2
            · rename_i hn2; exact h2 _ G2 H2 e2 (F2.unhold hn2)
            · exact h2.elim
          | ct ρ2 s2 =>
            intro h2 σ2 G2 H2 e2 F2
            simp only [clrS] at h2
            split at h2
            · rename_i hn2; exact h2 _ G2 H2 e2 (F2.unhold hn2)
            · exact h2.elim
          | rt d s2 => exact fun h2 => h2
          | err _ _ _ _ => exact fun h2 => (show False from h2).elim
          | bad => exact fun h2 => h2
        · exact h.elim
      · rename_i em
        exact ⟨false, hm _ _ em, fun z => (by cases z), fun _ => h σ' dd xs G' H' e F' hdd nW r⟩
      · exact h.elim
theorem ds_tryE (i : Nat) {x n : Str} {cv : Value} {mt : Addr → Option Bool} {body suite : List Stmt} {b0 : Stmt} {np pos pos' : Pos} {mb ms : MS O} (c : Cs K Wx X) (hm : ∀ c b, mt c = some b → PySem.W.exmOne K (.ref c) cv = some b) (hc : Names X x cv)
    (hb : ∃ tb : WX → TS, ∀ (W : WX) (pn : List (Addr × Obj)) (xe : Value → Shared → Prop), Cs K W (X.tr pn xe) → DB K O W (X.tr pn xe) body (tb W) mb)
    (hsu : ∃ (ts : Addr → Value → Option Addr → TS) (mh : ∀ (a : Addr) (cls : Value) (d : Option Addr), MS (O.hold a cls d)), (∀ (a : Addr) (oe : Obj) (cls : Value) (d : Option Addr) (pn : List (Addr × Obj)), Zc cls d oe → (∃ vs, oe.data = .fields vs) → Cn K WF (X.suite a ((a, oe) :: pn)) → DB K (O.hold a cls d) WF (X.suite a ((a, oe) :: pn)) (b0 :: suite) (ts a cls d) (mh a cls d)) ∧ ∀ a cls d, mh a cls d = ms)
    (hs : X.stack = X.env :: X.outer := by rfl) (hf : X.env.frame = some X.env.locals := by rfl) (hi : X.N[i]? = some n := by rfl) (hln : X.env.kindOf n = some .local := by rfl) :
    DS K O Wx X (.Try body [.ExceptHandler (some (.Name x np)) (some n) (b0 :: suite) pos'] [] [] pos) (fun D σ H => hb.choose (wAs K cv i hsu.choose Wx D) D σ H) (mTryAs O mt i mb ms) :=
  ds_tryAs i c hm hc hb.choose_spec (fun a oe cls d pn hz hf cn => by
    obtain ⟨mh, h1, h2⟩ := hsu.choose_spec
    have := h1 a oe cls d pn hz hf cn
    rw [h2] at this
    exact this) hs hf hi hln
end
end Mr

namespace Mr
open PySem PySem.Spec PyProof.Rows L2 RZ
/-! ### the source of draws: a list of a list, an int, a list, an int -/
structure Dr where
  xs : List Int
  n : Int
  zs : List Int
  k : Int
/-- the world of a source at d, its lists at a and b -/
abbrev DrW (d a b : Addr) : Wo where
  S := Dr
  W := fun p => p = d ∨ p = a ∨ p = b
  ok := fun s H => (H d = some (.lst [.ref a, .int s.n, .ref b, .int s.k]) ∧ H a = some (.lst (s.xs.map V.int)) ∧ H b = some (.lst (s.zs.map V.int))) ∧ d ≠ a ∧ d ≠ b ∧ a ≠ b
  ec := fun _ _ _ => False
  loc := fun s H H' h k => by
    refine ⟨⟨?_, ?_, ?_⟩, k.2⟩
    · rw [h d (.inl rfl)]; exact k.1.1
    · rw [h a (.inr (.inl rfl))]; exact k.1.2.1
    · rw [h b (.inr (.inr rfl))]; exact k.1.2.2
  dom := fun s H p k w => by
    rcases w with rfl | rfl | rfl
    · rw [k.1.1]; simp
    · rw [k.1.2.1]; simp
    · rw [k.1.2.2]; simp
section
variable {K : PySem.W.Frag} {Wx : WX} {X : Cx} {d a b : Addr} {G0 H0 G H G1 H1 : Hp} {σ : L2.St} {ρ : Ev} {s s1 : Dr}
/-- slot i holds the source -/
def isDr (d : Addr) (i : Nat) (ρ : Ev) : Bool := match ρ[i]? with
  | some (.sh (.ref p)) => decide (p = d)
  | _ => false
theorem isDr_at {i : Nat} (F : Fm K (DrW d a b) H0 σ ρ G H s) (h : isDr d i ρ = true) : σ[i]? = some (some (.ref d)) := by
  unfold isDr at h
  split at h
  · rename_i p e
    have hp := of_decide_eq_true h
    subst hp
    obtain ⟨v, ev, r⟩ := F.get e
    cases r
    exact ev
  · cases h
theorem dr_at {j : Int} {v : V} (F : Fm K (DrW d a b) H0 σ ρ G H s) (h : atI [V.ref a, .int s.n, .ref b, .int s.k] j = some v) {Q : VK} (q : Q v H) : rIx K (.ref d) (.int j) H Q :=
  .inl ⟨d, _, j, v, rfl, rfl, .inl (.inl F.ok.1.1), h, q⟩
/-- d[1], d[3] -/
def mDrI (d a b : Addr) (i : Nat) (j : Int) : ME (DrW d a b) := fun ρ s => if isDr d i ρ = true then (if j = 1 then .ok (.int s.n) s else if j = 3 then .ok (.int s.k) s else .bad) else .bad
theorem de_drI (i : Nat) {x : Str} {j : Int} {jj : Nat} {p1 p2 pos : Pos} (c : Cn K Wx X) (hN : X.N[i]? = some x := by rfl) (hv : Vis X.env.scope x := by first | exact Or.inl rfl | exact Or.inr (Or.inl rfl) | exact Or.inr (Or.inr rfl)) (hd : (x == ("__debug__" : Str)) = false := by decide)
    (hcd : (x == ("__classdict__" : Str)) = false := by decide) : DE K (DrW d a b) Wx X (.Subscript (.Name x p1) (.Constant (.int j) jj p2) pos) (tOp (rIx K) (tVar i) (tC (.int j))) (mDrI d a b i j) := by
  refine ⟨c.hK, c.tk, pe_ix (ix_G c.hK) (pe_var hN hv hd hcd) pe_int (fun _ _ => rfl), fun σ ρ H0 G H s Q F h => ?_⟩
  unfold mDrI at h
  split at h
  · rename_i hi
    refine ⟨.ref d, isDr_at F hi, ?_⟩
    split at h
    · rename_i e
      subst e
      exact dr_at F rfl (h _ G H (.refl F.gh) F.ok (.int _))
    · split at h
      · rename_i e
        subst e
        exact dr_at F rfl (h _ G H (.refl F.gh) F.ok (.int _))
      · exact (show False from h).elim
  · exact (show False from h).elim
/-- the list of d[0], of d[2] -/
def drL (s : Dr) (j : Int) : Option (List Int) := if j = 0 then some s.xs else if j = 2 then some s.zs else none
theorem drL_at {j : Int} {ns : List Int} (F : Fm K (DrW d a b) H0 σ ρ G H s) (h : drL s j = some ns) : ∃ p, atI [V.ref a, .int s.n, .ref b, .int s.k] j = some (.ref p) ∧ H p = some (.lst (ns.map V.int)) := by
  unfold drL at h
  split at h
  · rename_i e
    subst e
    cases h
    exact ⟨a, rfl, F.ok.1.2.1⟩
  · split at h
    · rename_i e
      subst e
      cases h
      exact ⟨b, rfl, F.ok.1.2.2⟩
    · cases h
/-- d[j] != [] -/
def mDrNe (d a b : Addr) (i : Nat) (j : Int) : MT (DrW d a b) := fun ρ s => if isDr d i ρ = true then (match drL s j with
  | some ns => .ok (!ns.isEmpty) s
  | none => .bad) else .bad
theorem dpAll_ints {H : Hp} : ∀ ns : List Int, DpAll K H (ns.map V.int) (ns.map PyData.int)
  | [] => .nil
  | n :: ns => .cons (.int n) (dpAll_ints ns)
theorem shaped_ints (ns : List Int) : SeqAt.shaped (.list (ns.map PyData.int)) = true := by
  have h1 : ∀ ns : List Int, PyData.canLayAll0 (ns.map PyData.int) = true := by
    intro ns
    induction ns with
    | nil => simp [PyData.canLayAll0]
    | cons n ns ih => simp [PyData.canLayAll0, PyData.canLay0, ih]
  have h2 : (PyData.list (ns.map PyData.int)).depth ≤ 64 := by
    have h3 : ∀ ns : List Int, PyData.depthAll (ns.map PyData.int) ≤ 1 := by
      intro ns
      induction ns with
      | nil => simp [PyData.depthAll]
      | cons n ns ih => simp [PyData.depthAll, PyData.depth]; exact ih
    have := h3 ns
    simp only [PyData.depth]
    omega
  unfold SeqAt.shaped
  simp [PyData.canLay0, h1, h2]
theorem dt_drNe (i : Nat) {x : Str} {j : Int} {jj k : Nat} {p1 p2 p3 p4 pos : Pos} (c : Cn K Wx X) (hr : Room k X.A) (hN : X.N[i]? = some x := by rfl) (hv : Vis X.env.scope x := by first | exact Or.inl rfl | exact Or.inr (Or.inl rfl) | exact Or.inr (Or.inr rfl)) (hd : (x == ("__debug__" : Str)) = false := by decide)
    (hcd : (x == ("__classdict__" : Str)) = false := by decide) : DT K (DrW d a b) Wx X (.Compare (.Subscript (.Name x p1) (.Constant (.int j) jj p2) p3) [.NotEq] [.List [] p4] pos) (tTest (tOp (rNeG K) (tOp (rIx K) (tVar i) (tC (.int j))) (tLst tNil))) (mDrNe d a b i j) := by
  refine ⟨c.hK, c.tk, pt_cmpR (op_neG c.hK hr.units) (pe_ix (ix_G c.hK) (pe_var hN hv hd hcd) pe_int (fun _ _ => rfl)) (pe_lst pa_nil) (nomark _), fun σ ρ H0 G H s Q F h => ?_⟩
  unfold mDrNe at h
  split at h
  · rename_i hi
    refine ⟨.ref d, isDr_at F hi, ?_⟩
    split at h
    · rename_i ns e
      obtain ⟨p, e1, e2⟩ := drL_at F e
      refine dr_at F e1 ⟨Nat.zero_le _, fun q nq => ?_⟩
      have t := Tr0.hid (o := .lst []) F.gh nq
      have pq : p ≠ q := ne_of_none e2 nq
      refine .inr ⟨.list (ns.map .int), .list [], .lst (.inl (.inl (by rw [upd_ne pq]; exact e2))) (dpAll_ints ns), .lst (.inl (.inl upd_same)) .nil, shaped_ints ns, shaped_ints [], _, rfl, ?_⟩
      have ev : (!PyData.eqv (.list (ns.map PyData.int)) (.list [])) = !ns.isEmpty := by
        cases ns <;> simp [PyData.eqv, PyData.eqvAll]
      rw [ev]
      exact h _ G _ t.up (F.keepW t) rfl
    · exact (show False from h).elim
  · exact (show False from h).elim
/-- d[j][e] -/
def mDrIx (d a b : Addr) (i : Nat) (j : Int) (m : ME (DrW d a b)) : ME (DrW d a b) := fun ρ s => if isDr d i ρ = true then (match drL s j with
  | some ns => (m ρ s).bind fun z s1 => match z with
    | .int z => R.lift ((atI ns z).map .int) s1
    | _ => .bad
  | none => .bad) else .bad
theorem atI_map {ns : List Int} {z n : Int} (h : atI ns z = some n) : atI (ns.map V.int) z = some (.int n) := by
  unfold atI at h ⊢
  rw [List.length_map]
  cases e : ixN ns.length z with
  | none => rw [e] at h; cases h
  | some j =>
    rw [e] at h
    have h' : ns[j]? = some n := h
    show (ns.map V.int)[j]? = some (.int n)
    rw [List.getElem?_map, h']
    rfl
theorem de_drIx (i : Nat) {x : Str} {j : Int} {jj : Nat} {e : Expr} {te : TE} {me : ME (DrW d a b)} {p1 p2 p3 pos : Pos} (he : DE K (DrW d a b) Wx X e te me) (hw : ∀ ρ s z s1, me ρ s = .ok z s1 → s1 = s) (hN : X.N[i]? = some x := by rfl) (hv : Vis X.env.scope x := by first | exact Or.inl rfl | exact Or.inr (Or.inl rfl) | exact Or.inr (Or.inr rfl)) (hd : (x == ("__debug__" : Str)) = false := by decide)
    (hcd : (x == ("__classdict__" : Str)) = false := by decide) (hs : PlainIx e := by exact fun _ _ => rfl) : DE K (DrW d a b) Wx X (.Subscript (.Subscript (.Name x p1) (.Constant (.int j) jj p2) p3) e pos) (tOp (rIx K) (tOp (rIx K) (tVar i) (tC (.int j))) te) (mDrIx d a b i j me) := by
  refine ⟨he.hK, he.tk, pe_ix (ix_G he.hK) (pe_ix (ix_G he.hK) (pe_var hN hv hd hcd) pe_int (fun _ _ => rfl)) he.pe hs, fun σ ρ H0 G H s Q F h => ?_⟩
  unfold mDrIx at h
  split at h
  · rename_i hi
    refine ⟨.ref d, isDr_at F hi, ?_⟩
    split at h
    · rename_i ns ed
      obtain ⟨p, e1, e2⟩ := drL_at F ed
      refine dr_at F e1 ?_
      refine he.sn σ ρ H0 G H s _ F (pst_bind h fun z s1 em zv G1 H1 t1 k1 r1 h1 => ?_)
      have hs1 := hw _ _ _ _ em
      subst hs1
      have F1 := F.tr t1 k1
      cases z with
      | int z =>
        cases r1
        dsimp only at h1
        cases ea : atI ns z with
        | none => rw [ea] at h1; exact (show False from h1).elim
        | some n =>
          rw [ea] at h1
          obtain ⟨p', e1', e2'⟩ := drL_at F1 ed
          rw [e1] at e1'
          cases e1'
          exact .inl ⟨p, _, z, .int n, rfl, rfl, .inl (.inl e2'), atI_map ea, h1 _ G1 H1 (.refl t1.gh) k1 (.int _)⟩
      | _ => exact (show False from h1).elim
    · exact (show False from h).elim
  · exact (show False from h).elim
/-- len(d[j]) -/
def mDrLen (d a b : Addr) (i : Nat) (j : Int) : ME (DrW d a b) := fun ρ s => if isDr d i ρ = true then (match drL s j with
  | some ns => .ok (.int ns.length) s
  | none => .bad) else .bad
theorem de_drLen (i : Nat) {x : Str} {j : Int} {jj : Nat} {p p1 p2 p3 pos : Pos} (c : Cn K Wx X) (hm : X.mg "len" = none) (hN : X.N[i]? = some x := by rfl) (hv : Vis X.env.scope x := by first | exact Or.inl rfl | exact Or.inr (Or.inl rfl) | exact Or.inr (Or.inr rfl)) (hd : (x == ("__debug__" : Str)) = false := by decide)
    (hcd : (x == ("__classdict__" : Str)) = false := by decide) (hg : Gl X "len" := by rfl) (he : starEach [.Subscript (.Name x p1) (.Constant (.int j) jj p2) p3] X.env = (false, eval (.Subscript (.Name x p1) (.Constant (.int j) jj p2) p3) X.env) :: starEach [] X.env := by rfl) (hpl : (backTo pos (starEach [] X.env)).any (·.1) = false := by rfl) :
    DE K (DrW d a b) Wx X (.Call (.Name "len" p) [.Subscript (.Name x p1) (.Constant (.int j) jj p2) p3] [] pos) (tCB (fun xs H Q => ∃ x n, xs = [x] ∧ LenV K x H n ∧ Q (.int n) H) (tCons (tOp (rIx K) (tVar i) (tC (.int j))) tNil)) (mDrLen d a b i j) := by
  refine ⟨c.hK, c.tk, pe_callB (call_lenG c.hK) hg hm PySem.boot_len (pa_cons (pe_ix (ix_G c.hK) (pe_var hN hv hd hcd) pe_int (fun _ _ => rfl)) pa_nil he) (by decide) (by decide) he hpl, fun σ ρ H0 G H s Q F h => ?_⟩
  unfold mDrLen at h
  split at h
  · rename_i hi
    refine ⟨.ref d, isDr_at F hi, ?_⟩
    split at h
    · rename_i ns e
      obtain ⟨p, e1, e2⟩ := drL_at F e
      refine dr_at F e1 ⟨_, ns.length, rfl, .inl ⟨_, .inl (.inl e2), by simp⟩, h _ G H (.refl F.gh) F.ok (.int _)⟩
    · exact (show False from h).elim
  · exact (show False from h).elim
/-- the source's own list is written -/
theorem Fs.drw0 (F : Fs K (DrW d a b) G0 H0 σ ρ G H s) (n k : Int) : Fs K (DrW d a b) G0 H0 σ ρ G (upd H d (.lst [.ref a, .int n, .ref b, .int k])) { s with n := n, k := k } := by
  have hd := F.fm.ok
  have t : Tr (DrW d a b).W G H G (upd H d (.lst [.ref a, .int n, .ref b, .int k])) := by
    refine ⟨Same.refl _, fun c u e => ?_, fun c u e => .inl e, fun c u w e => ?_, fun c e => ?_⟩
    · have := F.fm.wg d (.inl rfl)
      rw [upd_ne (ne_of_none e this)]
      exact F.fm.gh c u e
    · rw [upd_ne (fun z => w (.inl z))]; exact e
    · by_cases hc : c = d
      · subst hc; rw [upd_same] at e; cases e
      · rw [upd_ne hc] at e; exact e
  refine F.go t ⟨⟨upd_same, ?_, ?_⟩, hd.2⟩
  · rw [upd_ne (Ne.symm hd.2.1)]; exact hd.1.2.1
  · rw [upd_ne (Ne.symm hd.2.2.1)]; exact hd.1.2.2
/-- d[1] = e, d[3] = e -/
def mDrSet (d a b : Addr) (i : Nat) (j : Int) (m : ME (DrW d a b)) : MS (DrW d a b) := fun ρ s => toS (m ρ s) ρ fun z s1 => if isDr d i ρ = true then (match z with
  | .int z => if j = 1 then .nx ρ { s1 with n := z } else if j = 3 then .nx ρ { s1 with k := z } else .bad
  | _ => .bad) else .bad
theorem ds_drSet (i : Nat) {x : Str} {j : Int} {jj : Nat} {e : Expr} {te : TE} {me : ME (DrW d a b)} {p1 p2 p3 pos : Pos} (he : DE K (DrW d a b) Wx X e te me) (hN : X.N[i]? = some x := by rfl) (hv : Vis X.env.scope x := by first | exact Or.inl rfl | exact Or.inr (Or.inl rfl) | exact Or.inr (Or.inr rfl)) (hd : (x == ("__debug__" : Str)) = false := by decide)
    (hcd : (x == ("__classdict__" : Str)) = false := by decide) (hs : swapsWith e (some (.Subscript (.Name x p1) (.Constant (.int j) jj p2) p3)) pos.line X.env = pure false := by rfl) :
    DS K (DrW d a b) Wx X (.Assign [.Subscript (.Name x p1) (.Constant (.int j) jj p2) p3] e pos) (tAsg te (gSub (tVar i) (tC (.int j)) rSetL)) (mDrSet d a b i j me) := by
  refine ⟨ps_asg he.pe (pg_sub (pe_var hN hv hd hcd) pe_int set_list) hs, fun G0 H0 σ ρ G H s Dn F h => ?_⟩
  refine he.sn σ ρ H0 G H s _ F.fm (pst_toS F h fun z s1 _ zv G1 H1 t1 k1 r1 h1 => ?_)
  have F1 := F.go t1 k1
  split at h1
  · rename_i hi
    refine ⟨.ref d, isDr_at F1.fm hi, ?_⟩
    cases z with
    | int z =>
      cases r1
      dsimp only at h1
      have drw : ∀ n k, Fs K (DrW d a b) G0 H0 σ ρ G1 (upd H1 d (.lst [.ref a, .int n, .ref b, .int k])) { s1 with n := n, k := k } := fun n k => F1.drw0 n k
      split at h1
      · rename_i e
        subst e
        exact ⟨d, _, 1, 1, rfl, rfl, F1.fm.ok.1.1, rfl, h1 σ G1 _ (Same.refl _) (drw z s1.k)⟩
      · split at h1
        · rename_i e
          subst e
          exact ⟨d, _, 3, 3, rfl, rfl, F1.fm.ok.1.1, rfl, h1 σ G1 _ (Same.refl _) (drw s1.n z)⟩
        · exact (show False from h1).elim
    | _ => exact (show False from h1).elim
  · exact (show False from h1).elim
/-- d[1] = d[0].pop(0) -/
def mDrPop (d a b : Addr) (i : Nat) : MS (DrW d a b) := fun ρ s => if isDr d i ρ = true then (match s.xs with
  | [] => .bad
  | x :: xs => .nx ρ { s with n := x, xs := xs }) else .bad
theorem ds_drPop (i : Nat) {x : Str} {j1 j2 j3 : Nat} {p1 p2 p3 p4 p5 p6 p7 p8 p9 pos : Pos} (c : Cn K Wx X) (hN : X.N[i]? = some x := by rfl) (hv : Vis X.env.scope x := by first | exact Or.inl rfl | exact Or.inr (Or.inl rfl) | exact Or.inr (Or.inr rfl)) (hd : (x == ("__debug__" : Str)) = false := by decide)
    (hcd : (x == ("__classdict__" : Str)) = false := by decide)
    (hps : PS X (.Assign [.Subscript (.Name x p1) (.Constant (.int 1) j1 p2) p3] (.Call (.Attribute (.Subscript (.Name x p4) (.Constant (.int 0) j2 p5) p6) "pop" p7) [.Constant (.int 0) j3 p8] [] p9) pos) (tAsg (tBM X.K "list" rPopAt (tOp (rIx X.K) (tVar i) (tC (.int 0))) (tCons (tC (.int 0)) tNil)) (gSub (tVar i) (tC (.int 1)) rSetL)) := by
      exact ps_asg (pe_bm PySem.F.plainAttrs_list PySem.F.slot_list_pop PySem.F.type_list_pop mt_popAt (pe_ix (ix_G rfl) (pv _) pe_int (fun _ _ => rfl)) (pa_cons pe_int pa_nil)) (pg_sub (pv _) pe_int set_list)) :
    DS K (DrW d a b) Wx X (.Assign [.Subscript (.Name x p1) (.Constant (.int 1) j1 p2) p3] (.Call (.Attribute (.Subscript (.Name x p4) (.Constant (.int 0) j2 p5) p6) "pop" p7) [.Constant (.int 0) j3 p8] [] p9) pos)
      (tAsg (tBM K "list" rPopAt (tOp (rIx K) (tVar i) (tC (.int 0))) (tCons (tC (.int 0)) tNil)) (gSub (tVar i) (tC (.int 1)) rSetL)) (mDrPop d a b i) := by
  refine ⟨by rw [← c.hK]; exact hps, fun G0 H0 σ ρ G H s Dn F h => ?_⟩
  unfold mDrPop at h
  split at h
  · rename_i hi
    obtain ⟨xs, n, zs, k⟩ := s
    dsimp only at h
    cases xs with
    | nil => exact (show False from h).elim
    | cons y ys =>
      have ok := F.fm.ok
      have ed := isDr_at F.fm hi
      refine ⟨.ref d, ed, dr_at F.fm (v := .ref a) rfl ⟨.inl ⟨rfl, _, .inl (.inl ok.1.2.1)⟩, a, _, 0, 0, .int y, rfl, rfl, ok.1.2.1, by decide, by decide, (ixN_seq (j := 0) (by simp [ixN])).1, rfl, ?_⟩⟩
      have hda : (upd H a (.lst (((y :: ys).map V.int).eraseIdx 0))) d = some (.lst [.ref a, .int n, .ref b, .int k]) := by
        rw [upd_ne ok.2.1]; exact ok.1.1
      refine ⟨.ref d, ed, d, _, 1, 1, rfl, rfl, hda, rfl, ?_⟩
      have wgd := F.fm.wg d (.inl rfl)
      have wga := F.fm.wg a (.inr (.inl rfl))
      have t : Tr (DrW d a b).W G H G (upd (upd H a (.lst (ys.map V.int))) d (.lst [.ref a, .int y, .ref b, .int k])) := by
        refine ⟨Same.refl _, fun c u e => ?_, fun c u e => .inl e, fun c u w e => ?_, fun c e => ?_⟩
        · rw [upd_ne (ne_of_none e wgd), upd_ne (ne_of_none e wga)]
          exact F.fm.gh c u e
        · rw [upd_ne (fun z => w (.inl z)), upd_ne (fun z => w (.inr (.inl z)))]; exact e
        · by_cases hc : c = d
          · subst hc; rw [upd_same] at e; cases e
          · rw [upd_ne hc] at e
            by_cases hc2 : c = a
            · subst hc2; rw [upd_same] at e; cases e
            · rw [upd_ne hc2] at e; exact e
      refine h σ G _ (Same.refl _) (F.go t ⟨⟨upd_same, ?_, ?_⟩, ok.2⟩)
      · rw [upd_ne (Ne.symm ok.2.1), upd_same]; rfl
      · rw [upd_ne (Ne.symm ok.2.2.1), upd_ne (Ne.symm ok.2.2.2)]; exact ok.1.2.2
  · exact (show False from h).elim
end
end Mr

namespace Mr
open PySem PySem.Spec PyProof.Rows L2 RZ
/-! ### dicts of one's own -/
def putP {β : Type} (kvs : List (Key × β)) (k : Key) (v : β) : List (Key × β) := if (kvs.any fun kv => decide (kv.1 = k)) = true then kvs.map (fun kv => if kv.1 = k then (kv.1, v) else kv) else kvs ++ [(k, v)]
def valP {β : Type} (kvs : List (Key × β)) (k : Key) : Option β := (kvs.find? fun kv => decide (kv.1 = k)).map (·.2)
def mergeP {β : Type} (kvs more : List (Key × β)) : List (Key × β) := more.foldl (fun acc kv => putP acc kv.1 kv.2) kvs
def toKey : D → Option Key
  | .int i => some (.inl i)
  | .str x => some (.inr x)
  | _ => none
section
variable {K : PySem.W.Frag} {O : Wo} {Wx : WX} {X : Cx} {G0 H0 G H G1 H1 : Hp} {σ : L2.St} {ρ : Ev} {s s1 : O.S}
theorem Rep.key {v : V} {d : D} {k : Key} (r : Rep K G v d) (h : toKey d = some k) : v = kV k := by
  cases r <;> cases h <;> rfl
theorem RepK.any {vs : List (Key × V)} {ds : List (Key × D)} (r : RepK K G vs ds) (k : Key) : (vs.any fun kv => decide (kv.1 = k)) = ds.any fun kv => decide (kv.1 = k) := by
  induction vs generalizing ds with
  | nil => cases r; rfl
  | cons p vs ih =>
    cases r with
    | cons h r => rw [List.any_cons, List.any_cons, ih r]
theorem RepK.mapK {v : V} {d : D} (q : Rep K G v d) (k : Key) : ∀ {vs : List (Key × V)} {ds : List (Key × D)}, RepK K G vs ds → RepK K G (vs.map (fun kv => if kv.1 = k then (kv.1, v) else kv)) (ds.map (fun kv => if kv.1 = k then (kv.1, d) else kv))
  | _, _, .nil => .nil
  | (f, _) :: _, _, .cons h r => by
    rw [List.map_cons, List.map_cons]
    by_cases e : f = k
    · subst e
      simp only [if_true]
      exact .cons q (r.mapK q f)
    · simp only [e, if_false]
      exact .cons h (r.mapK q k)
theorem RepK.append : ∀ {a b : List (Key × V)} {c d : List (Key × D)}, RepK K G a c → RepK K G b d → RepK K G (a ++ b) (c ++ d)
  | _, _, _, _, .nil, r => r
  | _, _, _, _, .cons h r, q => .cons h (r.append q)
theorem RepK.put {v : V} {d : D} {k : Key} {vs : List (Key × V)} {ds : List (Key × D)} (r : RepK K G vs ds) (q : Rep K G v d) : RepK K G (putK vs k v) (putP ds k d) := by
  unfold putK putP
  rw [r.any k]
  split
  · exact r.mapK q k
  · exact r.append (.cons q .nil)
theorem RepK.merge : ∀ {ms vs : List (Key × V)} {es ds : List (Key × D)}, RepK K G ms es → RepK K G vs ds → RepK K G (mergeK vs ms) (mergeP ds es)
  | _, _, _, _, .nil, r => r
  | _, _, _, _, .cons h m, r => m.merge (r.put h)
theorem RepK.val {vs : List (Key × V)} {ds : List (Key × D)} {k : Key} {d : D} (r : RepK K G vs ds) (h : valP ds k = some d) : ∃ v, valV vs k = some v ∧ Rep K G v d := by
  induction vs generalizing ds with
  | nil => cases r; cases h
  | cons p vs ih =>
    cases r with
    | @cons f v e vs ds q r =>
      unfold valP at h
      rw [List.find?_cons] at h
      unfold valV
      rw [List.find?_cons]
      by_cases hf : f = k
      · subst hf
        simp only [decide_true] at h ⊢
        cases h
        exact ⟨v, rfl, q⟩
      · simp only [hf, decide_false] at h ⊢
        exact ih r h
theorem RepK.length {vs : List (Key × V)} {ds : List (Key × D)} (r : RepK K G vs ds) : vs.length = ds.length := by
  induction vs generalizing ds with
  | nil => cases r; rfl
  | cons p vs ih =>
    cases r with
    | cons q r => rw [List.length_cons, List.length_cons, ih r]
/-! {k: v, ..} -/
abbrev MP (O : Wo) := Ev → O.S → R O.S (List (D × D))
def pairR (K : PySem.W.Frag) (G : Hp) : List (V × V) → List (D × D) → Prop
  | [], [] => True
  | (x, y) :: ps, (a, b) :: ds => Rep K G x a ∧ Rep K G y b ∧ pairR K G ps ds
  | _, _ => False
theorem pairR.mono (e : Same G G1) : ∀ {ps : List (V × V)} {ds : List (D × D)}, pairR K G ps ds → pairR K G1 ps ds
  | [], [], _ => trivial
  | (x, y) :: ps, (a, b) :: ds, h => ⟨h.1.mono e, h.2.1.mono e, pairR.mono e h.2.2⟩
  | [], _ :: _, h => h.elim
  | _ :: _, [], h => h.elim
def SndP (K : PySem.W.Frag) (O : Wo) (Wx : WX) (t : List (TE × TE)) (m : MP O) : Prop := ∀ σ ρ H0 G H s Q, Fm K O H0 σ ρ G H s → Pst K O Wx σ G H (pairR K) (m ρ s) Q → tPairs t σ H Q
structure DPs (K : PySem.W.Frag) (O : Wo) (Wx : WX) (X : Cx) (pos : Pos) (ks : List (Option Expr)) (vs : List Expr) (t : List (TE × TE)) (m : MP O) : Prop where
  hK : X.K = K
  tk : Takes X Wx
  pe : PPs X pos ks vs t
  sn : SndP K O Wx t m
def mPNil (O : Wo) : MP O := fun _ s => .ok [] s
def mPCons (O : Wo) (k v : ME O) (r : MP O) : MP O := fun ρ s => (k ρ s).bind fun x s1 => (v ρ s1).bind fun y s2 => (r ρ s2).bind fun ps s3 => .ok ((x, y) :: ps) s3
theorem dps_nil {pos : Pos} (c : Cn K Wx X) : DPs K O Wx X pos [] [] [] (mPNil O) := ⟨c.hK, c.tk, pps_nil, fun σ ρ H0 G H s Q F h => h [] G H (.refl F.gh) F.ok trivial⟩
theorem dps_cons {pos : Pos} {k v : Expr} {ks : List (Option Expr)} {vs : List Expr} {tk tv : TE} {tr : List (TE × TE)} {mk mv : ME O} {mr : MP O} (hk : DE K O Wx X k tk mk) (hv : DE K O Wx X v tv mv) (hr : DPs K O Wx X pos ks vs tr mr) :
    DPs K O Wx X pos (some k :: ks) (v :: vs) ((tk, tv) :: tr) (mPCons O mk mv mr) := by
  refine ⟨hk.hK, hk.tk, pps_cons hk.pe hv.pe hr.pe, fun σ ρ H0 G H s Q F h => ?_⟩
  refine hk.sn σ ρ H0 G H s _ F (pst_bind h fun dx s1 _ x G1 H1 t1 k1 r1 h1 => ?_)
  have F1 := F.tr t1 k1
  refine hv.sn σ ρ H0 G1 H1 s1 _ F1 (pst_bind h1 fun dy s2 _ y G2 H2 t2 k2 r2 h2 => ?_)
  have F2 := F1.tr t2 k2
  refine hr.sn σ ρ H0 G2 H2 s2 _ F2 (pst_bind h2 fun ps s3 _ pv G3 H3 t3 k3 r3 h3 => ?_)
  exact h3 _ G3 H3 (.refl t3.gh) k3 ⟨(r1.mono t2.gg).mono t3.gg, r2.mono t3.gg, r3⟩
def keysP : List (D × D) → Option (List (Key × D))
  | [] => some []
  | (a, b) :: ps => match toKey a, keysP ps with
    | some k, some r => some ((k, b) :: r)
    | _, _ => none
theorem keysP_ok : ∀ {ps : List (V × V)} {ds : List (D × D)} {kds : List (Key × D)}, pairR K G ps ds → keysP ds = some kds → ∃ kvs : List (Key × V), ps = kvs.map (fun kv => (kV kv.1, kv.2)) ∧ RepK K G kvs kds
  | [], [], _, _, h => by cases h; exact ⟨[], rfl, .nil⟩
  | (x, y) :: ps, (a, b) :: ds, _, r, h => by
    simp only [keysP] at h
    split at h
    · rename_i k rr e1 e2
      cases h
      obtain ⟨kvs, e3, e4⟩ := keysP_ok r.2.2 e2
      exact ⟨(k, y) :: kvs, by rw [List.map_cons, ← e3, r.1.key e1], .cons r.2.1 e4⟩
    · cases h
  | [], _ :: _, _, r, _ => r.elim
  | _ :: _, [], _, r, _ => r.elim
/-- x = {k: v, ..} -/
def mOwnD (O : Wo) (i : Nat) (m : MP O) : MS O := fun ρ s => toS (m ρ s) ρ fun ps s1 => match keysP ps with
  | some kds => if kds.length ≤ 15 then .nx (ρ.set i (.ownD (mergeP [] kds))) s1 else .bad
  | none => .bad
theorem ds_ownD (i : Nat) {x : Str} {ks : List (Option Expr)} {vs : List Expr} {trs : List (TE × TE)} {m : MP O} {pos pos' pos2 : Pos} (hN : X.N.Nodup) (he : DPs K O Wx X pos2 ks vs trs m) (hi : X.N[i]? = some x := by rfl) (hx : Loc X.env.scope x := by first | exact Or.inl rfl | exact Or.inr rfl)
    (hs : swapsWith (.Dict ks vs pos2) (some (.Name x pos')) pos.line X.env = pure false := by rfl) (hf : X.fn x = true ∨ X.env.scope.names.lookup x = some .local := by first | exact .inl rfl | exact .inr rfl | assumption)
    (hall : ks.all (·.isSome) = true := by rfl) (hl : ks.length = vs.length := by rfl) (h0 : ks ≠ [] := by intro z; cases z) (h15 : ks.length ≤ 15 := by decide) : DS K O Wx X (.Assign [.Name x pos'] (.Dict ks vs pos2) pos) (tAsg (tDisp trs) (gName i)) (mOwnD O i m) := by
  refine ⟨ps_set hN hi hx (pe_disp he.pe hall hl h0 h15) hs hf, fun G0 H0 σ ρ G H s Dn F h => ?_⟩
  intro p np
  have t0 := Tr0.hid (o := .dK []) F.fm.gh np
  have F1 := F.go t0.up (F.fm.keepW t0)
  have nW : ¬ O.W p := fun w => O.dom s H p F.fm.ok w np
  have n0 : H0 p = none := F.tr.dm p np
  refine he.sn σ ρ H0 G _ s _ F1.fm (pst_toS F1 h fun ps s1 _ pv G1 H1 t1 k1 r1 h1 => ?_)
  have F2 := F1.go t1 k1
  have hp : H1 p = some (.dK []) := t1.kp _ _ nW upd_same
  have gp : G1 p = none := by
    cases e : G1 p with
    | none => rfl
    | some z =>
      rcases t1.gr p z e with q | q
      · rw [F.fm.gh.free np] at q; cases q
      · rw [upd_same] at q; cases q
  split at h1
  · rename_i kds ek
    split at h1
    · rename_i hz
      obtain ⟨kvs, e1, e2⟩ := keysP_ok r1 ek
      refine ⟨hp, kvs, e1, by rw [e2.length]; exact hz, ?_⟩
      have t2 : Tr O.W G H G1 (upd H1 p (.dK (mergeK [] kvs))) := (t0.up.trans t1).mut np gp
      have k2 : O.ok s1 (upd H1 p (.dK (mergeK [] kvs))) := O.loc s1 H1 _ (fun a w => by rw [upd_ne]; intro e; rw [e] at w; exact nW w) k1
      exact h1 _ G1 _ (Same.refl _) ⟨F.fm.put t2 k2 np ⟨p, _, rfl, upd_same, e2.merge .nil, gp, nW, n0⟩, F.tr.trans t2⟩
    · exact (show False from h1).elim
  · exact (show False from h1).elim
theorem not_xd_d {H : Hp} {p : Addr} {vs : List (Key × V)} (h : H p = some (.dK vs)) : ∀ u, H p = some u → ∀ fs, u ≠ .xd fs := fun u e fs z => by rw [h] at e; cases e; cases z
/-- x[k] = v -/
def mPutD (O : Wo) (i : Nat) (mk mv : ME O) : MS O := fun ρ s => toS (mv ρ s) ρ fun v s1 => match ρ[i]? with
  | some (.ownD kds) => toS (mk ρ s1) ρ fun k s2 => match toKey k with
    | some k => if kds.length < 100000 then .nx (ρ.set i (.ownD (putP kds k v))) s2 else .bad
    | none => .bad
  | _ => .bad
theorem ds_putD (i : Nat) {x : Str} {ek ev : Expr} {tk tv : TE} {mk mv : ME O} {p1 p2 p3 : Pos} {j : Nat} (hr : Room j X.A) (hk : DE K O Wx X ek tk mk) (hv : DE K O Wx X ev tv mv) (hN : X.N[i]? = some x := by rfl) (hvs : Vis X.env.scope x := by first | exact Or.inl rfl | exact Or.inr (Or.inl rfl) | exact Or.inr (Or.inr rfl))
    (hd : (x == ("__debug__" : Str)) = false := by decide) (hcd : (x == ("__classdict__" : Str)) = false := by decide) (hs : swapsWith ev (some (.Subscript (.Name x p1) ek p2)) p3.line X.env = pure false := by rfl) :
    DS K O Wx X (.Assign [.Subscript (.Name x p1) ek p2] ev p3) (sDPut (tVar i) tk tv) (mPutD O i mk mv) := by
  refine ⟨ps_dput (hu_of hr) (pe_var hN hvs hd hcd) hk.pe hv.pe hs, fun G0 H0 σ ρ G H s Dn F h => ?_⟩
  refine hv.sn σ ρ H0 G H s _ F.fm (pst_toS F h fun d s1 _ v G1 H1 t1 k1 r1 h1 => ?_)
  have F1 := F.go t1 k1
  split at h1
  · rename_i kds ei
    obtain ⟨o, eo, p, vs, rfl, hp, r, gp, wp, h0⟩ := F1.fm.at ei
    refine ⟨.ref p, eo, ?_⟩
    refine hk.sn σ ρ H0 G1 H1 s1 _ F1.fm (pst_toS F1 h1 fun k s2 _ kv G2 H2 t2 k2 r2 h2 => ?_)
    have F2 := F1.go t2 k2
    split at h2
    · rename_i k' ek
      split at h2
      · rename_i hz
        obtain ⟨o', eo', p', vs', e', hp', r', gp', wp', h0'⟩ := F2.fm.at ei
        rw [eo] at eo'
        subst e'
        cases eo'
        have ekv := r2.key ek
        subst ekv
        exact ⟨p, _, rfl, DPut.k hp' (by rw [r'.length]; exact sz5l hz), h2 σ G2 _ (Same.refl _) (F2.wr ei rfl rfl eo gp' wp' h0' (not_xd_d hp') ⟨p, _, rfl, upd_same, r'.put (r1.mono t2.gg), gp', wp', h0'⟩)⟩
      · exact (show False from h2).elim
    · exact (show False from h2).elim
  · exact (show False from h1).elim
/-- x[k], x a dict of one's own -/
def mGetD (O : Wo) (i : Nat) (mk : ME O) : ME O := fun ρ s => match ρ[i]? with
  | some (.ownD kds) => (mk ρ s).bind fun k s1 => match toKey k with
    | some k => R.lift (valP kds k) s1
    | none => .bad
  | _ => .bad
theorem de_getD (i : Nat) {x : Str} {ek : Expr} {tk : TE} {mk : ME O} {p1 pos : Pos} {j : Nat} (hr : Room j X.A) (hk : DE K O Wx X ek tk mk) (hN : X.N[i]? = some x := by rfl) (hvs : Vis X.env.scope x := by first | exact Or.inl rfl | exact Or.inr (Or.inl rfl) | exact Or.inr (Or.inr rfl))
    (hd : (x == ("__debug__" : Str)) = false := by decide) (hcd : (x == ("__classdict__" : Str)) = false := by decide) (hs : NoSl ek := by exact fun _ _ => rfl) : DE K O Wx X (.Subscript (.Name x p1) ek pos) (tDGet (tVar i) tk) (mGetD O i mk) := by
  refine ⟨hk.hK, hk.tk, pe_dget (hu_of hr) (pe_var hN hvs hd hcd) hk.pe hs, fun σ ρ H0 G H s Q F h => ?_⟩
  unfold mGetD at h
  split at h
  · rename_i kds ei
    obtain ⟨o, eo, p, vs, rfl, hp, r, gp, wp, h0⟩ := F.at ei
    refine ⟨.ref p, eo, ?_⟩
    refine hk.sn σ ρ H0 G H s _ F (pst_bind h fun k s1 _ kv G1 H1 t1 k1 r1 h1 => ?_)
    have F1 := F.tr t1 k1
    split at h1
    · rename_i k' e2
      obtain ⟨o', eo', p', vs', e', hp', r', gp', wp', h0'⟩ := F1.at ei
      rw [eo] at eo'
      subst e'
      cases eo'
      have ekv := r1.key e2
      subst ekv
      cases ev : valP kds k' with
      | none => rw [ev] at h1; exact (show False from h1).elim
      | some y =>
        rw [ev] at h1
        obtain ⟨v, e3, e4⟩ := r'.val ev
        refine ⟨p, v, rfl, ?_, h1 v G1 H1 (.refl t1.gh) k1 e4⟩
        rw [← e3]
        exact DGet.k hp'
    · exact (show False from h1).elim
  · exact (show False from h).elim
end
end Mr

namespace Mr
open PySem PySem.Spec PyProof.Rows L2 RZ
section
variable {K : PySem.W.Frag} {O : Wo} {Wx : WX} {X : Cx} {G0 H0 G H G1 H1 : Hp} {σ : L2.St} {ρ : Ev} {s s1 : O.S}
/-! ### a list or a tuple walked -/
def asSeq : D → Option (List D)
  | .lst xs => some xs
  | .tup xs => some xs
  | _ => none
def iSeq (K : PySem.W.Frag) (tl : TE) : TI := fun σ H R => tl σ H fun x H1 => ∃ a, x = .ref a ∧ (((∃ xs, SqL K H1 a xs) ∧ R (Itl K a) H1) ∨ ((∃ xs, SqT K H1 a xs) ∧ R (Itt K a) H1))
theorem pi_seq {tg l : Expr} {tl : TE} (hl : PE X l tl) : PI X tg l (iSeq X.K tl) := by
  refine ⟨fun pins s σ H R I h => ?_⟩
  refine thn (hl.run pins s σ H _ I h) fun v s1 ⟨x, H1, I1, r1, q1⟩ => ?_
  obtain ⟨a, e, q1⟩ := q1
  subst e
  cases r1
  rcases q1 with ⟨⟨xs, hq⟩, q⟩ | ⟨⟨xs, hq⟩, q⟩
  · obtain ⟨its, rv, p, hz⟩ := I1.list hq
    refine wpAny_pyIter_list p.isList ?_
    refine ⟨s1.heap.objs.size, [s1.heap.objs.size], _, _, H1, rfl, I1.kept (t' := s1.toks) fun b o e => Heap.get?_push_of_some _ e, turn_list a _, ⟨_, Heap.get?_push_size _ rfl, rfl, rfl⟩, fun b hb => ?_, q⟩
    have e : b = s1.heap.objs.size := by simpa using hb
    subst e
    exact I1.fpOk (Nat.le_refl _) (I1.hok.fresh (Nat.le_refl _))
  · obtain ⟨its, rv, p, hz⟩ := I1.tuple hq
    refine wpAny_pyIter_tuple (show s1.heap.IsTuple a its.toArray from p) ?_
    refine ⟨s1.heap.objs.size, [s1.heap.objs.size], _, _, H1, rfl, I1.kept (t' := s1.toks) fun b o e => Heap.get?_push_of_some _ e, turn_tuple a _, ⟨_, Heap.get?_push_size _ rfl, rfl, rfl⟩, fun b hb => ?_, q⟩
    have e : b = s1.heap.objs.size := by simpa using hb
    subst e
    exact I1.fpOk (Nat.le_refl _) (I1.hok.fresh (Nat.le_refl _))
def mItS (O : Wo) (m : ME O) : MI O := fun ρ s => (m ρ s).bind fun x s1 => R.lift (asSeq x) s1
theorem di_seq {tg e : Expr} {te : TE} {me : ME O} (he : DE K O Wx X e te me) : DI K O Wx X tg e (iSeq K te) (mItS O me) := by
  refine ⟨by have := he.hK; subst this; exact pi_seq he.pe, fun σ ρ H0 G H s Q F h => ?_⟩
  refine he.sn σ ρ H0 G H s _ F (pst_bind h fun dx s1 _ x G1 H1 t1 k1 r1 h1 => ?_)
  cases r1 with
  | lst hs r => exact ⟨_, rfl, .inl ⟨⟨_, t1.gh.seq hs⟩, h1 _ G1 H1 (.refl t1.gh) k1 (it_list hs r)⟩⟩
  | tup hs r => exact ⟨_, rfl, .inr ⟨⟨_, sq_t t1.gh hs⟩, h1 _ G1 H1 (.refl t1.gh) k1 (it_tup hs r)⟩⟩
  | _ => exact (show False from h1).elim
/-! ### a module's constant -/
structure GC (K : PySem.W.Frag) (mg : Str → Option Value) (x : Str) (v : V) (d : D) : Prop where
  ex : ∃ u, mg x = some u ∧ RelV v u ∧ ∀ G, Rep K G v d
theorem GC.de {x : Str} {v : V} {d : D} {pos : Pos} (h : GC K X.mg x v d) (c : Cn K Wx X) (hg : Gl X x := by rfl) (hdb : (x == ("__debug__" : Str)) = false := by decide) : DE K O Wx X (.Name x pos) (tC v) (mC O d) := by
  obtain ⟨u, hm, r, q⟩ := h.ex
  exact de_glob c hm r q hg hdb
theorem vals_abs : ∀ {us : List Value} {vs : List V}, us.map absV = vs.map some → Vals vs us
  | [], [], _ => .nil
  | u :: us, v :: vs, h => by
    rw [List.map_cons, List.map_cons] at h
    injection h with h1 h2
    refine .cons ?_ (vals_abs h2)
    cases u <;> simp only [absV, Option.some.injEq] at h1 <;> first | (subst h1; first | rfl | exact ⟨_, rfl⟩) | (cases h1; done)
  | [], _ :: _, h => by cases h
  | _ :: _, [], h => by cases h
theorem flat_reps : ∀ {vs : List V} {ds : List D}, toVs ds = some vs → Reps K G vs ds
  | vs, [], h => by cases h; exact .nil
  | vs, d :: ds, h => by
    simp only [toVs] at h
    split at h
    · rename_i p ps e1 e2
      cases h
      refine .cons ?_ (flat_reps e2)
      cases d <;> simp only [toV, Option.some.injEq] at e1 <;> first | (subst e1; constructor) | (cases e1; done)
    · cases h
theorem gc_tup {mg : Str → Option Value} {x : Str} {a : Addr} {dd : Option Addr} {its : Array Value} {n : Nat} {sl : Array (Option Value)} {vs : List V} {ds : List D} (hm : mg x = some (.ref a)) (hl : K.lookup a = some ⟨.type "tuple", dd, .seq its n, sl⟩) (hz : its.size ≤ 1000) (h1 : its.toList.map absV = vs.map some) (h2 : toVs ds = some vs) :
    GC K mg x (.ref a) (.tup ds) := ⟨_, hm, rfl, fun G => .tup (.inr ⟨_, its, n, hl, rfl, rfl, Nat.le_trans hz (by decide), vals_abs h1⟩) (flat_reps h2)⟩
theorem gc_int {mg : Str → Option Value} {x : Str} {i : Int} {t : Tok} (hm : mg x = some (.int i t)) : GC K mg x (.int i) (.int i) := ⟨_, hm, ⟨_, rfl⟩, fun _ => .int i⟩
/-! ### a def whose mirror says nothing -/
theorem Fo.never {P : Program} {w : World} {mg : Str → Option Value} {base : Heap} {k n : Nat} {x : Str} {f : Addr} {fd : FuncData} {ps : List Str} (hm : mg x = some (.ref f)) (kp : PySem.W.keepIn K (.ref f) = true) (b : Binds K fd ps []) (hn : ps.length = n) : Fo P w K mg base O k x n (fun _ _ => .bad) :=
  ⟨f, fd, ps, ⟨fun vs H Q E h => by rw [hn]; exact h.1, fun A outer s H args us vs Q E hr he hb hv h => by
    obtain ⟨_, G, ds, s0, _, _, _, _, q⟩ := h
    exact (show False from q).elim⟩, hm, kp, b⟩
/-! ### a law: the source of draws is made first, then the rest runs in its world -/
def tEx {ι : Type} (u : ι → TS) : TS := fun D σ H => ∃ o, u o D σ H
theorem pss_ex {ι : Type} {sts : List Stmt} {u : ι → TS} (h : ∀ o, PSs X sts (u o)) : PSs X sts (tEx u) := ⟨fun pins s σ H D I q => by
  obtain ⟨o, q⟩ := q
  exact (h o).run pins s σ H D I q⟩
end
/-- the world in which nothing is changed -/
abbrev W0 : Wo where
  S := Unit
  W := fun _ => False
  ok := fun _ _ => True
  ec := fun _ _ _ => False
  loc := fun _ _ _ _ _ => trivial
  dom := fun _ _ _ _ w => w.elim
/-- the promise of _law_draws: a new source -/
def spDraws (K : PySem.W.Frag) : Sp := fun vs H Q _ => ∃ (l : Addr) (ns : List Int), vs = [.ref l] ∧ SqL K H l (ns.map V.int) ∧ ns.length ≤ 1000 ∧
  ∀ (H' : Hp) (d a b : Addr), Same H H' → H d = none → H a = none → H b = none → (DrW d a b).ok ⟨ns.filter (fun n => decide (10 ^ 18 ≤ n)), 0, ns.filter (fun n => decide (n < 10 ^ 18)), 0⟩ H' → Q (.ref d) H'
section
variable {K : PySem.W.Frag}
theorem lc_filter {f : Nat} {mt : MT W0} {p : Int → Bool} {ρ : Ev} (hf : f < ρ.length) (hm : ∀ n : Int, mt (ρ.set f (.sh (.int n))) () = .ok (p n) ()) : ∀ (ns : List Int) (acc : List D), acc.length + ns.length ≤ 1000 →
    lcL W0 (fName f) mt (mVar W0 f) ρ (ns.map D.int) acc () = .ok (acc ++ (ns.filter p).map D.int) ()
  | [], acc, _ => by simp [lcL]
  | n :: ns, acc, h => by
    rw [List.length_cons] at h
    rw [List.map_cons]
    simp only [lcL, fName, hm]
    cases hp : p n with
    | true =>
      have hv : mVar W0 f (ρ.set f (.sh (.int n))) () = .ok (.int n) () := by
        unfold mVar
        rw [List.getElem?_set_self hf]
      dsimp only
      rw [hv]
      dsimp only
      rw [if_pos (by omega), lc_filter hf hm ns (acc ++ [D.int n]) (by simp; omega)]
      simp [List.filter_cons, hp]
    | false =>
      dsimp only
      rw [lc_filter hf hm ns acc (by omega)]
      simp [List.filter_cons, hp]
/-- [[..], 0, [..], 0] -/
theorem draws_read {t1 t2 : TE} {m1 m2 : MA W0} {ns : List Int} {l : Addr} {H : Hp} {Q : VK} {E : XK} {σ : L2.St} {Wx : WX} (hlen : σ.length = 2) (h1 : SndN K W0 Wx t1 m1) (h2 : SndN K W0 Wx t2 m2) (es : σ[0]? = some (some (.ref l))) (hs : SqL K H l (ns.map V.int))
    (e1 : m1 [.sh (.lst (ns.map D.int)), .no] () = .ok ((ns.filter (fun n => decide (10 ^ 18 ≤ n))).map D.int) ()) (e2 : m2 [.sh (.lst (ns.map D.int)), .no] () = .ok ((ns.filter (fun n => decide (n < 10 ^ 18))).map D.int) ())
    (q : ∀ (H' : Hp) (d a b : Addr), Same H H' → H d = none → H a = none → H b = none → (DrW d a b).ok ⟨ns.filter (fun n => decide (10 ^ 18 ≤ n)), 0, ns.filter (fun n => decide (n < 10 ^ 18)), 0⟩ H' → Q (.ref d) H') :
    tRet (tLst (tCons t1 (tCons (tC (.int 0)) (tCons t2 (tCons (tC (.int 0)) tNil))))) { nx := fun _ H' => Q .non H', rt := Q } σ H := by
  have F : Fm K W0 H σ [.sh (.lst (ns.map D.int)), .no] H H () := by
    refine ⟨Same.refl _, fun _ w => w.elim, trivial, hlen, fun i o x a b => ?_, fun i j p x y hij a b c => ?_⟩
    · match i, b with
      | 0, b =>
        cases b
        rw [es] at a
        cases a
        exact ⟨_, rfl, .lst hs (.ints ns)⟩
      | 1, b => cases b; trivial
      | _ + 2, b => simp at b
    · match i, a with
      | 0, a => cases a; cases c
      | 1, a => cases a; cases c
      | _ + 2, a => simp at a
  refine h1 σ _ H H H () _ F ?_
  rw [e1]
  intro p vs G1 H1 t1 _ np gp hp r1
  have ev1 := r1.of_ints
  subst ev1
  have F1 := F.tr (s' := ()) t1 trivial
  refine h2 σ _ H G1 H1 () _ F1 ?_
  rw [e2]
  intro p2 vs2 G2 H2 t2 _ np2 gp2 hp2 r2
  have ev2 := r2.of_ints
  subst ev2
  have hp' : H2 p = some (.lst ((ns.filter (fun n => decide (10 ^ 18 ≤ n))).map V.int)) := t2.kp _ _ (fun z => z) hp
  refine ⟨Nat.le_trans (by decide : 4 ≤ 1000) (by decide), fun d nd => ?_⟩
  have n1 : H1 d = none := t2.dm d nd
  have dp : d ≠ p := fun e => by rw [e, hp'] at nd; cases nd
  have dp2 : d ≠ p2 := fun e => by rw [e, hp2] at nd; cases nd
  have pp : p ≠ p2 := fun e => by rw [← e, hp] at np2; cases np2
  refine q _ d p p2 (fun b o e => ?_) (t1.dm d n1) np (t1.dm p2 np2) ⟨⟨upd_same, by rw [upd_ne dp.symm]; exact hp', by rw [upd_ne dp2.symm]; exact hp2⟩, dp, dp2, pp⟩
  rw [upd_ne (ne_of_none (t2.kp b o (fun z => z) (t1.kp b o (fun z => z) e)) nd)]
  exact t2.kp b o (fun z => z) (t1.kp b o (fun z => z) e)
end
end Mr
namespace Mr
open PySem PySem.Spec PyProof.Rows L2 RZ
theorem draws_m1 {ns : List Int} (h : ns.length ≤ 1000) : mLc W0 (mItS W0 (mVar W0 0)) (fName 1) (mTest W0 (mBin W0 dGe (mVar W0 1) (mBin W0 dPow (mC W0 (.int 10)) (mC W0 (.int 18))))) (mVar W0 1) [1] [.sh (.lst (ns.map D.int)), .no] () = .ok ((ns.filter (fun n => decide (10 ^ 18 ≤ n))).map D.int) () := by
  have e := lc_filter (f := 1) (mt := mTest W0 (mBin W0 dGe (mVar W0 1) (mBin W0 dPow (mC W0 (.int 10)) (mC W0 (.int 18))))) (p := fun n => decide (10 ^ 18 ≤ n)) (ρ := [.sh (.lst (ns.map D.int)), .no]) (by simp) (fun n => by
    simp [mTest, mBin, mVar, mC, dPow, dInt2, CPowG, dGe, dBool]) ns [] (by simpa using h)
  rw [List.nil_append] at e
  exact e
theorem draws_m2 {ns : List Int} (h : ns.length ≤ 1000) : mLc W0 (mItS W0 (mVar W0 0)) (fName 1) (mTest W0 (mBin W0 dLt (mVar W0 1) (mBin W0 dPow (mC W0 (.int 10)) (mC W0 (.int 18))))) (mVar W0 1) [1] [.sh (.lst (ns.map D.int)), .no] () = .ok ((ns.filter (fun n => decide (n < 10 ^ 18))).map D.int) () := by
  have e := lc_filter (f := 1) (mt := mTest W0 (mBin W0 dLt (mVar W0 1) (mBin W0 dPow (mC W0 (.int 10)) (mC W0 (.int 18))))) (p := fun n => decide (n < 10 ^ 18)) (ρ := [.sh (.lst (ns.map D.int)), .no]) (by simp) (fun n => by
    simp [mTest, mBin, mVar, mC, dPow, dInt2, CPowG, dLt, dBool]) ns [] (by simpa using h)
  rw [List.nil_append] at e
  exact e
/-- the frame of a law behind its first line -/
theorem law_fm {K : PySem.W.Frag} {ns : List Int} {l d a b : Addr} {H H1 : Hp} {s0 : Dr} {n : Nat} {σ : L2.St} (hS : SqL K H l (ns.map V.int)) (sm : Same H H1) (nd : H d = none) (na : H a = none) (nb : H b = none) (ok : (DrW d a b).ok s0 H1) (hl : σ.length = n + 2) (e0 : σ[0]? = some (some (.ref l))) (e1 : σ[1]? = some (some (.ref d))) :
    Fs K (DrW d a b) H H1 σ (.sh (.lst (ns.map D.int)) :: .sh (.ref d) :: List.replicate n .no) H H1 s0 := by
  refine ⟨⟨sm, fun p w => ?_, ok, by simp [hl], fun i o x u v => ?_, fun i j p x y hij u v c => ?_⟩, .refl sm⟩
  · rcases w with rfl | rfl | rfl
    · exact nd
    · exact na
    · exact nb
  · match i, v with
    | 0, v =>
      cases v
      rw [e0] at u
      cases u
      exact ⟨_, rfl, .lst hS (.ints ns)⟩
    | 1, v =>
      cases v
      rw [e1] at u
      cases u
      exact ⟨_, rfl, .ref d⟩
    | i + 2, v =>
      have := List.mem_of_getElem? (show (List.replicate n Sl.no)[i]? = some x from v)
      rw [List.mem_replicate] at this
      rw [this.2]
      trivial
  · match i, u with
    | 0, u => cases u; cases c
    | 1, u => cases u; cases c
    | i + 2, u =>
      have := List.mem_of_getElem? (show (List.replicate n Sl.no)[i]? = some x from u)
      rw [List.mem_replicate] at this
      rw [this.2] at c
      cases c
def spLaw (K : PySem.W.Frag) : Sp := fun vs H Q _ => ∃ (l : Addr) (ns : List Int), vs = [.ref l] ∧ SqL K H l (ns.map V.int) ∧ ns.length ≤ 63 ∧ ∀ H', Q (.bl true) H'
end Mr
namespace Mr
open PySem PySem.Spec PyProof.Rows L2
theorem noCX {P : Program} {w : World} {O : List Env} {H : Hp} {s : Shared} {e : Value} {s' : Shared} (z : L2.CX P w O H s (fun _ _ _ => False) e s') : False := by
  unfold L2.CX at z
  simp at z
end Mr

namespace Mr
open PySem PySem.Spec PyProof.Rows L2 RZ
/-! ### the mirrors of operators at given values -/
theorem eAdd (i j : Int) : dAdd (.int i) (.int j) = some (.int (i + j)) := rfl
theorem eSub (i j : Int) : dSub (.int i) (.int j) = some (.int (i - j)) := rfl
theorem eMul (i j : Int) : dMul (.int i) (.int j) = if CMulG i j then some (.int (i * j)) else none := rfl
theorem eDiv (i j : Int) : dDiv (.int i) (.int j) = if CDivG i j then some (.int (i.fdiv j)) else none := rfl
theorem eMod (i j : Int) : dMod (.int i) (.int j) = if CModG i j then some (.int (i.fmod j)) else none := rfl
theorem ePow (i j : Int) : dPow (.int i) (.int j) = if CPowG i j then some (.int (i ^ j.toNat)) else none := rfl
theorem eNeg (i : Int) : dNeg (.int i) = some (.int (-i)) := rfl
theorem eLt (i j : Int) : dLt (.int i) (.int j) = some (.bl (decide (i < j))) := rfl
theorem eLe (i j : Int) : dLe (.int i) (.int j) = some (.bl (decide (i ≤ j))) := rfl
theorem eGt (i j : Int) : dGt (.int i) (.int j) = some (.bl (decide (j < i))) := rfl
theorem eGe (i j : Int) : dGe (.int i) (.int j) = some (.bl (decide (j ≤ i))) := rfl
theorem eEqI (i j : Int) : dEq (.int i) (.int j) = some (.bl (decide (i = j))) := rfl
theorem eNeI (i j : Int) : dNe (.int i) (.int j) = some (.bl (!decide (i = j))) := rfl
theorem eEqS (i j : Str) : dEq (.str i) (.str j) = some (.bl (decide (i = j))) := rfl
theorem eEqB (i j : Bool) : dEq (.bl i) (.bl j) = some (.bl (decide (i = j))) := rfl
theorem eNeB (i j : Bool) : dNe (.bl i) (.bl j) = some (.bl (!decide (i = j))) := rfl
theorem eIdxL (xs : List D) (i : Int) : dIdx (.lst xs) (.int i) = atI xs i := rfl
theorem eIdxT (xs : List D) (i : Int) : dIdx (.tup xs) (.int i) = atI xs i := rfl
theorem eBool (b : Bool) : dBool (.bl b) = some b := rfl
theorem eAbs (i : Int) : dAbs [.int i] = some (.int (if i < 0 then -i else i)) := rfl
theorem lg_of {n k : Nat} (h : n < 2 ^ k) (hk : 0 < k) : n.log2 < k := by
  by_cases e : n = 0
  · subst e; rw [Nat.log2_zero]; exact hk
  · exact (Nat.log2_lt e).mpr h
theorem lg4 {x : Int} (h1 : -(10 ^ 200) < x) (h2 : x < 10 ^ 200) : x.natAbs.log2 < 700 := by
  refine lg_of (k := 700) ?_ (by decide)
  have e : (10 : Int) ^ 200 = ((10 ^ 200 : Nat) : Int) := by decide +kernel
  have h3 : x.natAbs < 10 ^ 200 := by rw [e] at h1 h2; omega
  exact Nat.lt_trans h3 (by decide +kernel)
theorem mulG {i j : Int} (h1 : -(10 ^ 200) < i) (h2 : i < 10 ^ 200) (h3 : -(10 ^ 200) < j) (h4 : j < 10 ^ 200) : CMulG i j := ⟨Nat.lt_trans (lg4 h1 h2) (by decide), Nat.lt_trans (lg4 h3 h4) (by decide)⟩
theorem divG {i j : Int} (h0 : j ≠ 0) (h3 : -(10 ^ 200) < j) (h4 : j < 10 ^ 200) : CDivG i j := ⟨h0, Nat.lt_trans (lg4 h3 h4) (by decide)⟩
theorem modG {i j : Int} (h0 : j ≠ 0) : CModG i j := h0
theorem pow10 (k : Int) (h0 : 0 ≤ k) (h1 : k ≤ 1000) : CPowG 10 k := ⟨h0, h1, by decide⟩
theorem atI_ok {α : Type} {xs : List α} {i : Int} (h0 : 0 ≤ i) (h1 : i < xs.length) : ∃ x, atI xs i = some x ∧ x ∈ xs := by
  unfold atI ixN
  rw [if_pos h0, if_pos h1]
  have h2 : i.toNat < xs.length := by omega
  exact ⟨xs[i.toNat], by simp [List.getElem?_eq_getElem h2], List.getElem_mem h2⟩
theorem isDr0 (d : Addr) (ρ : Ev) : isDr d 0 (.sh (.ref d) :: ρ) = true := by simp [isDr]
/-- what every law keeps of its source: b bounds the number of draws -/
structure Ok (b : Int) (s : Dr) : Prop where
  xs : ∀ x ∈ s.xs, 0 < x
  n : 0 ≤ s.n
  k : 0 ≤ s.k
  kb : s.k ≤ b
theorem Ok.mono {b c : Int} {s : Dr} (h : Ok b s) (hc : b ≤ c) : Ok c s := ⟨h.xs, h.n, h.k, Int.le_trans h.kb hc⟩
theorem Ok.start (ns : List Int) : Ok 0 ⟨ns.filter (fun n => decide (10 ^ 18 ≤ n)), 0, ns.filter (fun n => decide (n < 10 ^ 18)), 0⟩ :=
  ⟨fun x hx => by have := (List.mem_filter.mp hx).2; simp at this; omega, Int.le_refl _, Int.le_refl _, Int.le_refl _⟩
end Mr

namespace Mr
open PySem PySem.Spec PyProof.Rows L2 RZ
/-! ### an error in hand: isinstance, its fields, a def called with it -/
structure IsC (K : PySem.W.Frag) (C : Addr) : Prop where
  cl : (PySem.W.clsIn K C).isSome = true
  ga : PySem.W.findIn K (.ref C) "__getattribute__" = some (some (.builtin "BaseException.__getattribute__"))
  gt : PySem.W.findIn K (.ref C) "__getattr__" = some none
  sb : PySem.W.subIn K (.ref C) (.type "BaseException") = some true
  ca : PySem.W.findIn K (.ref C) "__class__" = some (some (.builtin "object.__class__"))
  gs : PySem.W.specialIn K (.builtin "object.__class__") "__get__" = some (some (.builtin "getset_descriptor.__get__"))
  tk : PySem.W.takesIn K (.builtin "object.__class__") = some true
  mr : PySem.W.mroIn K C (.type "object") = some true
def rIsX (K : PySem.W.Frag) (a : Addr) (cls : Value) (d : Option Addr) : List V → Hp → VK → Prop := fun xs H Q => ∃ (c : V) (cv : Value) (b : Bool) (C dd : Addr) (fs : List (Str × V)), xs = [.ref a, c] ∧ cls = .ref C ∧ d = some dd ∧ H dd = some (.xd fs) ∧ IsC K C ∧ (∀ u, RelV c u → u = cv) ∧ PySem.W.kitOne K (.ref C) cv = some b ∧ Q (.bl b) H
theorem instX {X : Cx} {pins : List (Addr × Obj)} {σ : L2.St} {H : Hp} {s : Shared} {a C dd : Addr} {oe : Obj} {fs : List (Str × V)} (I : Inv X pins σ H s) (hp : (a, oe) ∈ X.pn) (hz : Zc (.ref C) (some dd) oe) (hf : ∃ vs, oe.data = .fields vs) (hdd : H dd = some (.xd fs)) :
    ∃ (od : Obj) (mA : Str → Option Value), PySem.W.InstAt s.heap a oe C (some od) ∧ (∀ name, PySem.W.lookIn name od = some (mA name)) ∧ (∀ n, RelO (fs.lookup n) (mA n)) := by
  have hx : ObjOk X.prog X.w H s.heap dd (.xd fs) := I.hok dd _ hdd
  obtain ⟨mA, hns, hr⟩ := hx
  obtain ⟨od, ho, hl⟩ := lookIn_ns hns
  obtain ⟨vs, hd⟩ := hf
  refine ⟨od, mA, ⟨(I.pin (a, oe) (List.mem_append.mpr (.inl hp))).1, hz.1, ?_, ?_⟩, hl, hr⟩
  · unfold PySem.W.notCls
    rw [hd] <;> rfl
  · rw [hz.2]
    exact ho
theorem call_isX {X : Cx} {a : Addr} {oe : Obj} {cls : Value} {d : Option Addr} (hp : (a, oe) ∈ X.pn) (hz : Zc cls d oe) (hf : ∃ vs, oe.data = .fields vs) : CallR X (.builtin "isinstance") (rIsX X.K a cls d) := by
  rintro pins s σ H _ us Q I r ⟨c, cv, b, C, dd, fs, rfl, rfl, rfl, hdd, ic, hcv, hk, q⟩
  cases r with
  | cons rx rr =>
    cases rr with
    | cons rt r0 =>
      cases r0
      cases rx
      have ec := hcv _ rt
      subst ec
      obtain ⟨od, mA, J, _, _⟩ := instX I hp hz hf hdd
      exact PySem.W.kia_one (PySem.W.kitx_exc ic.cl ic.ga ic.gt ic.sb ic.ca ic.gs ic.tk ic.mr) I.kIn J hk (fun z => nomatch z) fun tk => ⟨.bl b, H, I.kept (t' := tk) fun _ _ z => z, rfl, q⟩
section
variable {K : PySem.W.Frag} {O : Wo} {Wx : WX} {X : Cx}
def mIsX (O : Wo) (i : Nat) (t : Addr → Option Bool) : ME O := fun ρ s => match ρ[i]? with
  | some (.exc c fs) => R.lift ((t c).map .bl) s
  | _ => .bad
theorem de_isX (i : Nat) {a : Addr} {oe : Obj} {cls : Value} {d : Option Addr} {t : Addr → Option Bool} {x y : Str} {vD : V} {cv : Value} {p p1 p2 pos : Pos} (c : Cn K Wx X) (hp : (a, oe) ∈ X.pn) (hz : Zc cls d oe) (hf : ∃ vs, oe.data = .fields vs) (hm : X.mg "isinstance" = none)
    (hy : PE X (.Name y p2) (tC vD)) (hrel : ∀ u, RelV vD u → u = cv) (ht : ∀ c b, t c = some b → IsC K c ∧ PySem.W.kitOne K (.ref c) cv = some b)
    (hN : X.N[i]? = some x := by rfl) (hv : Vis X.env.scope x := by first | exact Or.inl rfl | exact Or.inr (Or.inl rfl) | exact Or.inr (Or.inr rfl)) (hd : (x == ("__debug__" : Str)) = false := by decide) (hcd : (x == ("__classdict__" : Str)) = false := by decide)
    (hg : Gl X "isinstance" := by rfl) (he : starEach [.Name x p1, .Name y p2] X.env = (false, eval (.Name x p1) X.env) :: starEach [.Name y p2] X.env := by rfl) (he2 : starEach [.Name y p2] X.env = (false, eval (.Name y p2) X.env) :: starEach [] X.env := by rfl) (hpl : (backTo pos (starEach [.Name y p2] X.env)).any (·.1) = false := by rfl) :
    DE K (O.hold a cls d) Wx X (.Call (.Name "isinstance" p) [.Name x p1, .Name y p2] [] pos) (tCB (rIsX K a cls d) (tCons (tVar i) (tCons (tC vD) tNil))) (mIsX O i t) := by
  refine ⟨c.hK, c.tk, ?_, fun σ ρ H0 G H s Q F h => ?_⟩
  · have hk : X.K = K := c.hK
    subst hk
    exact pe_callB (call_isX hp hz hf) hg hm (by decide +kernel) (pa_cons (pe_var hN hv hd hcd) (pa_cons hy pa_nil he2) he) (by decide) (by decide) he hpl
  · unfold mIsX at h
    split at h
    · rename_i c' fs ei
      obtain ⟨o, eo, a', dd, xs, rfl, ⟨rfl, rfl, rfl⟩, hdd, r, nW⟩ := F.at ei
      cases et : t c' with
      | none => rw [et] at h; exact (show False from h).elim
      | some b =>
        rw [et] at h
        obtain ⟨ic, hk⟩ := ht c' b et
        exact ⟨_, eo, vD, cv, b, c', dd, xs, rfl, rfl, rfl, hdd, ic, hrel, hk, h _ G H (.refl F.gh) F.ok (.bl b)⟩
    · exact (show False from h).elim
theorem pe_xfX {a C : Addr} {oe : Obj} {cls : Value} {d : Option Addr} {e : Expr} {te : TE} {pos : Pos} {n : Str} (hp : (a, oe) ∈ X.pn) (T : XfC X.K C) (hno : PySem.W.findIn X.K (.ref C) n = some none) (hz : Zc cls d oe) (hf : ∃ vs, oe.data = .fields vs) (he : PE X e te) (hb : attributeBase e n X.env (eval e X.env) = eval e X.env) :
    PE X (.Attribute e n pos) (tXf a cls d C n te) := ⟨fun pins s σ H Q I h => attr_of hb (thn (he.run pins s σ H _ I h) fun u s1 hh => by
  obtain ⟨x, H1, I1, rx, rfl, rfl, dd, fs, v, rfl, ea, l, q⟩ := hh
  cases rx
  obtain ⟨od, mA, J, hl, hr⟩ := instX I1 hp hz hf ea
  obtain ⟨w, hw, rw'⟩ := RelO.some_of (v := v) (o := mA n) (by have := hr n; rw [l] at this; exact this)
  have hfo := PySem.W.findObj_own (od := od) (v := w) T.hdC hno rfl (by rw [hl, hw])
  exact HandSPX.exc_get I1.kIn J T.ga T.gg T.exC hfo (handed_of rw') ⟨v, H1, I1.tok _, rw', q⟩)⟩
theorem de_xfX (i : Nat) {a C : Addr} {oe : Obj} {cls : Value} {d : Option Addr} {x f : Str} {p pos : Pos} (c : Cn K Wx X) (hp : (a, oe) ∈ X.pn) (T : XfC K C) (hno : PySem.W.findIn K (.ref C) f = some none) (hz : Zc cls d oe) (hf : ∃ vs, oe.data = .fields vs)
    (hN : X.N[i]? = some x := by rfl) (hv : Vis X.env.scope x := by first | exact Or.inl rfl | exact Or.inr (Or.inl rfl) | exact Or.inr (Or.inr rfl)) (hd : (x == ("__debug__" : Str)) = false := by decide) (hcd : (x == ("__classdict__" : Str)) = false := by decide)
    (hb : attributeBase (.Name x p) f X.env (eval (.Name x p) X.env) = eval (.Name x p) X.env := by rfl) :
    DE K (O.hold a cls d) Wx X (.Attribute (.Name x p) f pos) (tXf a cls d C f (tVar i)) (mXf O i C f) := by
  refine ⟨c.hK, c.tk, ?_, fun σ ρ H0 G H s Q F h => ?_⟩
  · have hk : X.K = K := c.hK
    subst hk
    exact pe_xfX hp T hno hz hf (pe_var hN hv hd hcd) hb
  · unfold mXf at h
    split at h
    · rename_i c' fs ei
      obtain ⟨o, eo, a', dd, xs, rfl, ⟨rfl, rfl, rfl⟩, hdd, r, nW⟩ := F.at ei
      split at h
      · rename_i ec
        subst ec
        cases el : fs.lookup f with
        | none => rw [el] at h; exact (show False from h).elim
        | some y =>
          rw [el] at h
          obtain ⟨v, ev, rv⟩ := r.look el
          exact ⟨_, eo, rfl, rfl, dd, xs, v, rfl, hdd, ev, h v G H (.refl F.gh) F.ok rv⟩
      · exact (show False from h).elim
    · exact (show False from h).elim
/-! ### l.count(True) -/
def rCountB (K : PySem.W.Frag) : V → List V → Hp → VK → Prop := fun x xs H Q => ∃ (a : Addr) (bs : List Bool) (k : Bool), x = .ref a ∧ xs = [.bl k] ∧ SqL K H a (bs.map V.bl) ∧ Q (.int ((bs.countP (· == k) : Nat) : Int)) H
theorem dpAll_bools {H : Hp} : ∀ bs : List Bool, DpAll K H (bs.map V.bl) (bs.map PyData.bool)
  | [] => .nil
  | b :: bs => .cons (.bl b) (dpAll_bools bs)
theorem mt_countB (hu : X.A.units + 65 < cLine) : MtR X "list.count" (rCountB X.K) := by
  rintro pins s σ H _ _ v us Q I rx rxs ⟨a, bs, k, rfl, rfl, hs, q⟩
  cases rx
  cases rxs with
  | cons ry rt =>
    cases rt
    cases ry
    obtain ⟨its, rv, p, hlen⟩ := I.list hs
    obtain ⟨as, ra⟩ := Dp.readsAll I (bs.map PyData.bool) _ its (dpAll_bools bs) rv
    have pl : ∀ bs : List Bool, PyData.plainAll (bs.map PyData.bool) = true := fun bs => by
      induction bs with
      | nil => rfl
      | cons b bs ih => simp [PyData.plainAll, PyData.plain]; exact ih
    have e : (bs.map PyData.bool).countP (fun y => PyData.eqv y (.bool k)) = bs.countP (· == k) := by
      rw [List.countP_map]
      congr 1
    refine SeqAt.count_list_data (vs := its.toArray) p.isList (show ReadsAll s.heap its.toArray.toList (bs.map PyData.bool) as from ra) (.bool k) (pl bs) rfl ?_ ?_
    · have : (PyData.bool k).depth = 0 := rfl
      rw [this]
      omega
    · rw [e]
      exact ⟨.int _, H, I.tok _, ⟨_, rfl⟩, q⟩
def toBs : List D → Option (List Bool)
  | [] => some []
  | .bl b :: xs => (toBs xs).map (b :: ·)
  | _ :: _ => none
theorem Reps.bools {G : Hp} : ∀ {vs : List V} {ds : List D} {bs : List Bool}, Reps K G vs ds → toBs ds = some bs → vs = bs.map V.bl
  | _, _, _, .nil, h => by cases h; rfl
  | _, _, _, .cons q r, h => by
    cases q <;> simp only [toBs, Option.map_eq_some_iff] at h <;> first | (cases h; done) | skip
    obtain ⟨bs, h1, rfl⟩ := h
    rw [r.bools h1]
    rfl
def dCountB (xs : List D) : D → Option D
  | .bl k => match toBs xs with
    | some bs => some (.int ((bs.countP (· == k) : Nat) : Int))
    | none => none
  | _ => none
def mCountB (O : Wo) (mo me : ME O) : ME O := fun ρ s => (mo ρ s).bind fun x s1 => match x with
  | .lst xs => (me ρ s1).bind fun y s2 => R.lift (dCountB xs y) s2
  | _ => .bad
theorem de_countB {o e : Expr} {to te : TE} {mo me : ME O} {p1 pos : Pos} {k : Nat} (hr : X.A.units + 65 < cLine) (ho : DE K O Wx X o to mo) (he : DE K O Wx X e te me)
    (hbase : attributeBase o "count" X.env (eval o X.env) = eval o X.env := by rfl)
    (hfew : ((backTo pos (starEach [e] X.env)).all (fun x => !x.1) && (backToKw pos (keywordEach [] X.env)).all (fun x => x.1.isSome) && decide ([e].length + ([] : List Keyword).length + (if ([] : List Keyword).isEmpty then 0 else 1) < 30)) = true := by rfl)
    (hline : (p1.endLine == pos.line) = true := by rfl) (hs : starEach [e] X.env = (false, eval e X.env) :: starEach [] X.env := by rfl) (hpl : (backTo pos (starEach [] X.env)).any (·.1) = false := by rfl) :
    DE K O Wx X (.Call (.Attribute o "count" p1) [e] [] pos) (tBM K "list" (rCountB K) to (tCons te tNil)) (mCountB O mo me) := by
  refine ⟨ho.hK, ho.tk, ?_, fun σ ρ H0 G H s Q F h => ?_⟩
  · have hk : X.K = K := ho.hK
    subst hk
    exact pe_bm PySem.F.plainAttrs_list PySem.F.slot_list_count PySem.F.type_list_count (mt_countB hr) ho.pe (pa_cons he.pe pa_nil hs) hbase hfew hline hs hpl
  · refine ho.sn σ ρ H0 G H s _ F (pst_bind h fun dx s1 _ x G1 H1 t1 k1 r1 h1 => ?_)
    cases r1 with
    | lst hq r =>
      refine ⟨.inl ⟨rfl, _, t1.gh.seq hq⟩, ?_⟩
      refine he.sn σ ρ H0 G1 H1 s1 _ (F.tr t1 k1) (pst_bind h1 fun dy s2 _ y G2 H2 t2 k2 r2 h2 => ?_)
      cases r2 with
      | bl kb =>
        unfold dCountB at h2
        dsimp only at h2
        cases eb : toBs _ with
        | some bs =>
          rw [eb] at h2
          have := r.bools eb
          subst this
          exact ⟨_, bs, kb, rfl, rfl, t2.gh.seq (t2.gg.seq hq), h2 _ G2 H2 (.refl t2.gh) k2 (.int _)⟩
        | none => rw [eb] at h2; exact (show False from h2).elim
      | _ => exact (show False from h2).elim
    | _ => exact (show False from h1).elim
end
/-! ### a def called with the error in hand -/
def spX (K : PySem.W.Frag) (O : Wo) (a : Addr) (cls : Value) (d : Option Addr) (m : Addr → List (Str × D) → O.S → R O.S D) : Sp := fun vs H Q E => vs = [.ref a] ∧ ∃ (G : Hp) (c dd : Addr) (fs : List (Str × D)) (xs : List (Str × V)) (s : O.S),
  cls = .ref c ∧ d = some dd ∧ H dd = some (.xd xs) ∧ RepF K G xs fs ∧ ¬ O.W dd ∧ Same G H ∧ (∀ p, O.W p → G p = none) ∧ O.ok s H ∧ PstF K O G H (m c fs s) Q E
structure FoX (P : Program) (w : World) (K : PySem.W.Frag) (mg : Str → Option Value) (base : Heap) (O : Wo) (k : Nat) (x : Str) (m : Addr → List (Str × D) → O.S → R O.S D) : Prop where
  ex : ∃ f fd ps, ps.length = 1 ∧ (∀ (A : Around) (outer : List Env) (s : Shared) (H : Hp) (args : Args) (us : List Value) (vs : List V) (Q : VK) (E : XK) (a : Addr) (oe : Obj) (cls : Value) (d : Option Addr), L2H.RoomH k A → L2H.PinOk outer H s (a, oe) → Zc cls d oe → (∃ vs, oe.data = .fields vs) →
      Env0 P w K mg base A outer s H → BindsTo s fd args (ps.zip us) → Vals vs us → spX K O a cls d m vs H Q E → codeAny (model P w) A (.call (.ref f) args) (CR (L2.CX P w) outer P w H s Q E) s) ∧ mg x = some (.ref f) ∧ PySem.W.keepIn K (.ref f) = true ∧ Binds K fd ps []
def runX (O : Wo) (n : Nat) (m : MS O) : Addr → List (Str × D) → O.S → R O.S D := fun c fs s => match m (.exc c fs :: List.replicate n .no) s with
  | .nx _ s1 => .ok .non s1
  | .rt d s1 => .ok d s1
  | _ => .bad
section
variable {P : Program} {w : World} {K : PySem.W.Frag} {mg : Str → Option Value} {base : Heap} {O : Wo}
theorem startX {a c dd : Addr} {fs : List (Str × D)} {xs : List (Str × V)} {G H : Hp} {s : O.S} {n : Nat} {N : List Str} (hn : N.length = n + 1) (g : Same G H) (wg : ∀ p, O.W p → G p = none) (ok : O.ok s H) (hd : H dd = some (.xd xs)) (r : RepF K G xs fs) (nW : ¬ O.W dd) :
    Fm K (O.hold a (.ref c) (some dd)) H (L2.start N [.ref a]) (.exc c fs :: List.replicate n .no) G H s := by
  refine ⟨g, wg, ok, by simp [L2.start, hn], fun i o x e1 e2 => ?_, fun i j p x y hij e1 e2 c1 c2 => ?_⟩
  · match i, e2 with
    | 0, e2 =>
      cases e2
      have e0 : o = some (.ref a) := by
        have : (L2.start N [.ref a])[0]? = some (some (V.ref a)) := by simp [L2.start]
        rw [this] at e1
        cases e1
        rfl
      exact ⟨a, dd, xs, e0, ⟨rfl, rfl, rfl⟩, hd, r, nW⟩
    | i + 1, e2 =>
      have := List.mem_of_getElem? (show (List.replicate n Sl.no)[i]? = some x from e2)
      rw [List.mem_replicate] at this
      rw [this.2]
      trivial
  · match i, e1 with
    | 0, e1 => cases e1; cases c1
    | i + 1, e1 =>
      have := List.mem_of_getElem? (show (List.replicate n Sl.no)[i]? = some x from e1)
      rw [List.mem_replicate] at this
      rw [this.2] at c1
      cases c1
theorem foX_mk {x qual : Str} {st : Stmt} {f : Addr} {fd : FuncData} {N ps : List Str} {k n : Nat} {m : MS O} (F : Fun K x qual st f fd) (S : FnScope N ps (defScope st)) (h1 : ps.length = 1) (hn : N.length = n + 1) (hg : mg x = some (.ref f)) (hb : Binds K fd ps [])
    (hbody : ∀ (cdv : Value) (A : Around) (outer : List Env) (s : Shared) (H : Hp) (E : XK) (a : Addr) (oe : Obj) (cls : Value) (d : Option Addr), L2H.RoomH k (A.deeper (envOfC qual (defScope st) s.heap.objs.size f cdv)) → Zc cls d oe → (∃ vs, oe.data = .fields vs) →
      Cn K WF (L2H.cxH (L2.CX P w) P w K mg base N qual (defScope st) f cdv A outer s H E (a, oe)) →
      ∃ t mh, DB K (O.hold a cls d) WF (L2H.cxH (L2.CX P w) P w K mg base N qual (defScope st) f cdv A outer s H E (a, oe)) (defBody st) t mh ∧ mh = m) : FoX P w K mg base O (k + 1) x (runX O n m) := by
  obtain ⟨oc, od, kV, doc, pm, an, cdv, ct, osl, rfl, lk, hcd⟩ := F.ex
  refine ⟨f, _, ps, h1, fun A outer s H args us vs Q E a oe cls d hr hpin hz hf e0 hbi r hsp => ?_, hg, F.kp, hb⟩
  obtain ⟨rfl, G, c, dd, fs, xs, s0, rfl, rfl, hdd, rf, nW, g, wg, ok, q⟩ := hsp
  have kin : K.In s.heap := e0.mod.kin.keeps fun z o ez => (e0.bs z o ez).1
  refine codeAny_call_function hr.depth (kin _ _ lk) rfl S.co S.gen rfl (PySem.W.codeRec_of kin hcd) (hbi _ _ _ _ (wpAny_newFunctionEnv_cells S.kind (fun ⟨z, u⟩ hy => ?_) fun env he s1 xi => ?_))
  · rcases S.par z (List.of_mem_zip hy).1 with y1 | y1
    · exact .inl y1
    · exact .inr ⟨y1, PySem.W.cellsFrom_some _ _ _ (.inl y1)⟩
  · subst he
    refine ⟨(e0.mod.nolimit.keeps fun z o ez => (e0.bs z o ez).1).keeps xi.toInCall.keep, codeAny_func ?_⟩
    obtain ⟨t, mh, hd, rfl⟩ := hbody cdv A outer s H E a oe (.ref c) (some dd) (hr.deeper _) hz hf ⟨rfl, takes0⟩
    have I := L2H.inv_startH (CX := L2.CX P w) (P := P) (w := w) (E := E) S hpin e0 (show [V.ref a].length = ps.length by rw [h1]; rfl) r xi
    have body := hd.sn G H (L2.start N [.ref a]) (.exc c fs :: List.replicate n .no) G H s0 { nx := fun _ H' => Q .non H', rt := Q } ⟨startX hn g wg ok hdd rf nW, .refl g⟩ (by
      unfold runX at q
      revert q
      cases mh (.exc c fs :: List.replicate n .no) s0 with
      | nx ρ s1 => exact fun q σ' G' H' e F' => q .non G' H' F'.tr F'.fm.ok .non
      | rt d s1 => exact fun q v G' H' e t' k' r' => q v G' H' t' k' r'
      | err c fs ρ s1 => exact fun q => q.elim
      | bk ρ s1 => exact fun q => q.elim
      | ct ρ s1 => exact fun q => q.elim
      | bad => exact fun q => q.elim)
    refine wpAny_mono (hd.pe.run [] s1 _ H _ I body) (fun fl s' hs => ?_) fun e s' hs => hs
    cases fl with
    | ret u =>
      obtain ⟨v, σ', H', J, rv, qq⟩ := hs
      exact ⟨v, H', J.os, J.bare, J.base, J.hok, rv, qq⟩
    | next =>
      obtain ⟨σ', H', J, qq⟩ := hs
      exact ⟨.non, H', J.os, J.bare, J.base, J.hok, rfl, qq⟩
    | brk => exact (show False from hs.elim fun _ z => z.elim fun _ z => z.2).elim
    | cont => exact (show False from hs.elim fun _ z => z.elim fun _ z => z.2).elim
variable {X : Cx}
def tCallX (K : PySem.W.Frag) (O : Wo) (a : Addr) (cls : Value) (d : Option Addr) (m : Addr → List (Str × D) → O.S → R O.S D) (ta : TA) : TE := fun σ H Q => ta σ H fun vs H1 => spX K O a cls d m vs H1 Q fun _ _ _ => False
def mCallX (O : Wo) (i : Nat) (m : Addr → List (Str × D) → O.S → R O.S D) : ME O := fun ρ s => match ρ[i]? with
  | some (.exc c fs) => m c fs s
  | _ => .bad
theorem de_callX (i : Nat) {k j : Nat} {a : Addr} {oe : Obj} {cls : Value} {d : Option Addr} {pn : List (Addr × Obj)} {x y : Str} {m : Addr → List (Str × D) → O.S → R O.S D} {p p1 pos : Pos} (F : FoX X.prog X.w K X.mg X.base O k y m) (hr : Room j X.A) (hk : k ≤ j) (cn : Cn K WF (X.suite a ((a, oe) :: pn))) (hz : Zc cls d oe) (hf : ∃ vs, oe.data = .fields vs)
    (hg : Gl X y := by rfl) (hN : X.N[i]? = some x := by rfl) (hv : Vis X.env.scope x := by first | exact Or.inl rfl | exact Or.inr (Or.inl rfl) | exact Or.inr (Or.inr rfl)) (hd : (x == ("__debug__" : Str)) = false := by decide) (hcd : (x == ("__classdict__" : Str)) = false := by decide)
    (hdb : (y == ("__debug__" : Str)) = false := by decide) (he : starEach [.Name x p1] X.env = (false, eval (.Name x p1) X.env) :: starEach [] X.env := by rfl) (hpl : (backTo pos (starEach [] X.env)).any (·.1) = false := by rfl) :
    DE K (O.hold a cls d) WF (X.suite a ((a, oe) :: pn)) (.Call (.Name y p) [.Name x p1] [] pos) (tCallX K O a cls d m (tCons (tVar i) tNil)) (mCallX O i m) := by
  obtain ⟨f, fd, ps, h1, Fn, hm, kp, bi⟩ := F.ex
  refine ⟨cn.hK, cn.tk, ⟨fun pins s σ H Q I h => ?_⟩, fun σ ρ H0 G H s Q F h => ?_⟩
  · have hk : X.K = K := cn.hK
    subst hk
    refine wpAny_Call_Name_kw (ld_glob (X := X.suite a ((a, oe) :: pn)) I hg hm ?_ hdb)
    have pa : PA (X.suite a ((a, oe) :: pn)) [.Name x p1] (tCons (tVar i) tNil) := pa_cons (pe_var (X := X.suite a ((a, oe) :: pn)) hN hv hd hcd) pa_nil he
    refine PySem.W.callWith_K (h₀ := X.base) I.ok.mod.kin kp (thn (pa.run pos pins s σ H _ I h) fun us s1 ⟨vs, H1, I1, r, q⟩ => ⟨I1.kIn, ?_⟩) he hpl
    have hl : us.length = ps.length := by rw [← r.length, q.1, h1]; rfl
    have b := bi s1 us I1.kIn (by rw [List.append_nil]; exact hl)
    rw [List.append_nil] at b
    have P1 := I1.pin (a, oe) (List.mem_append_left _ List.mem_cons_self)
    have pin : L2H.PinOk X.stack H1 s1 (a, oe) := ⟨P1.1, P1.2.1, fun z => (List.mem_cons.mp (I1.stkSub a z)).elim P1.2.2.1 P1.2.2.2.1, P1.2.2.2.2⟩
    have rh : L2H.RoomH k (X.suite a ((a, oe) :: pn)).A := ⟨by have := (L2H.roomH_of (hr.mono ‹_›)).dp; exact this, by have := (L2H.roomH_of (hr.mono ‹_›)).un; exact this⟩
    refine wpAny_call (codeAny_mono (Fn (X.suite a ((a, oe) :: pn)).A X.stack s1 H1 ⟨us, []⟩ us vs Q (fun _ _ _ => False) a oe cls d rh pin hz hf I1.env0 b r q) fun rr s' hq => ?_)
    cases rr with
    | error e =>
      obtain ⟨_, _, _, _, _, _, _, _, _, _, _, _, z⟩ := hq
      exact z.elim
    | ok fl =>
      cases fl with
      | ret u => exact I1.after hq
      | next => exact hq.elim
      | brk => exact hq.elim
      | cont => exact hq.elim
  · unfold mCallX at h
    split at h
    · rename_i c' fs ei
      obtain ⟨o, eo, a', dd, xs, rfl, ⟨rfl, rfl, rfl⟩, hdd, r, nW⟩ := F.at ei
      refine ⟨_, eo, rfl, G, c', dd, fs, xs, s, rfl, rfl, hdd, r, nW, F.gh, F.wg, F.ok, ?_⟩
      revert h
      cases m c' fs s with
      | ok v s1 => exact fun h v' G' H' t k r => h v' G' H' t k r
      | err c fs s1 => exact fun h dd' xs' G' H' t k e1 e2 e3 => h dd' xs' G' H' t k e1 e2 e3
      | bad => exact fun h => h
    · exact (show False from h).elim
end
end Mr
namespace Mr
open PySem PySem.Spec PyProof.Rows L2 RZ
theorem dt_neU {K : PySem.W.Frag} {O : Wo} {Wx : WX} {X : Cx} {a b : Expr} {ta tb : TE} {ma mb : ME O} {pos : Pos} (hu : X.A.units + 65 < cLine) (ha : DE K O Wx X a ta ma) (hb : DE K O Wx X b tb mb) : DT K O Wx X (.Compare a [.NotEq] [b] pos) (tTest (tOp (rNeG K) ta tb)) (mTest O (mBin O dNe ma mb)) := dt_cmp (op_neG ha.hK (by omega)) vop_ne ha hb (nomark _)
end Mr

namespace Mr
open PySem PySem.Spec PyProof.Rows L2
/-! ### where the classes stand, for every law alike -/
inductive Er where
  | ViewError | AxisError | LengthError | PositionError | OrderError | BroadcastError | StrideError | IndexRangeError | ShapeError | BufferMissing | CellError | CountError | NoSnapshot | OperatorError | FaultError | StepError | InputError | ParseError | SessionError
  deriving DecidableEq
structure Ca where
  c : Er → Addr
  es : List Er
  L : Addr
  v : Addr
structure Ad extends Ca where
  d : Addr
  a : Addr
  b : Addr
/-- which error class stands there -/
def Ca.cl (A : Ca) (x : Addr) : Option Er := A.es.find? fun e => decide (A.c e = x)
def Ca.t (A : Ca) (h : Er) (x : Addr) : Option Bool := (A.cl x).map fun e => decide (e = h)
def Ca.tL (A : Ca) (x : Addr) : Option Bool := (A.cl x).map fun _ => true
def Ca.Inj (A : Ca) : Prop := ∀ e ∈ A.es, ∀ f ∈ A.es, A.c e = A.c f → e = f
theorem Ca.cl_of {A : Ca} {x : Addr} {e : Er} (h : A.cl x = some e) : e ∈ A.es ∧ A.c e = x := by
  unfold Ca.cl at h
  exact ⟨List.mem_of_find?_eq_some h, by simpa using List.find?_some h⟩
theorem Ca.cl_c {A : Ca} (J : A.Inj) {e : Er} (he : e ∈ A.es) : A.cl (A.c e) = some e := by
  cases h : A.cl (A.c e) with
  | none =>
    unfold Ca.cl at h
    rw [List.find?_eq_none] at h
    exact absurd (decide_eq_true (rfl : A.c e = A.c e)) (h e he)
  | some f =>
    obtain ⟨h1, h2⟩ := Ca.cl_of h
    rw [J f h1 e he h2]
theorem Ca.t_c {A : Ca} (J : A.Inj) {e : Er} (he : e ∈ A.es) (h : Er) : A.t h (A.c e) = some (decide (e = h)) := by
  unfold Ca.t
  rw [Ca.cl_c J he]
  rfl
theorem Ca.tL_c {A : Ca} (J : A.Inj) {e : Er} (he : e ∈ A.es) : A.tL (A.c e) = some true := by
  unfold Ca.tL
  rw [Ca.cl_c J he]
  rfl
theorem Ca.t_ok {A : Ca} {P : Addr → Bool → Prop} {h : Er} (H : ∀ e ∈ A.es, P (A.c e) (decide (e = h))) : ∀ x b, A.t h x = some b → P x b := by
  intro x b q
  unfold Ca.t at q
  rw [Option.map_eq_some_iff] at q
  obtain ⟨e, h1, rfl⟩ := q
  obtain ⟨h2, rfl⟩ := Ca.cl_of h1
  exact H e h2
theorem Ca.tL_ok {A : Ca} {P : Addr → Bool → Prop} (H : ∀ e ∈ A.es, P (A.c e) true) : ∀ x b, A.tL x = some b → P x b := by
  intro x b q
  unfold Ca.tL at q
  rw [Option.map_eq_some_iff] at q
  obtain ⟨e, h1, rfl⟩ := q
  obtain ⟨h2, rfl⟩ := Ca.cl_of h1
  exact H e h2
end Mr
namespace S
open PySem PySem.Spec PyProof.Rows L2 Mr
abbrev O (A : Ad) : Wo := DrW A.d A.a A.b
theorem take_hw {d a b : Addr} : ∀ ρ s z s1, (mBin (DrW d a b) dMod (mDrI d a b 0 3) (mDrLen d a b 0 2)) ρ s = .ok z s1 → s1 = s := by
  intro ρ s z s1 h
  unfold mBin mDrI mDrLen drL at h
  by_cases hi : isDr d 0 ρ = true
  · simp [hi] at h
    cases hd : dMod (.int s.k) (.int s.zs.length) with
    | none => rw [hd] at h; cases h
    | some y => rw [hd] at h; cases h; rfl
  · simp [hi] at h
end S

namespace S
open PySem PySem.Spec PyProof.Rows L2 RZ Mr
/-! law_mixed -/
def mb_law_mixed (A : Ad) : MS (O A) :=
  (mSeq (O A) (mAsg (O A) (mBin (O A) dMod (mBin (O A) dPow (mBin (O A) dAdd (mBin (O A) dAdd (mBin (O A) dMod (mVar (O A) 0) (mC (O A) (.int 2147483647))) (mBin (O A) dMul (mC (O A) (.int 7919)) (mVar (O A) 1))) (mC (O A) (.int 104729))) (mC (O A) (.int 5))) (mC (O A) (.int 2147483629))) (fName 2))
  (mRet (O A) (mBin (O A) dMod (mBin (O A) dPow (mBin (O A) dAdd (mBin (O A) dAdd (mBin (O A) dMul (mVar (O A) 2) (mC (O A) (.int 48271))) (mBin (O A) dMul (mBin (O A) dMul (mC (O A) (.int 40503)) (mVar (O A) 1)) (mVar (O A) 1))) (mC (O A) (.int 13))) (mC (O A) (.int 3))) (mC (O A) (.int 1000000007)))))
def m_law_mixed (A : Ad) : List D → Dr → R Dr D := runF (O A) 3 (mb_law_mixed A)
/-! law_take -/
def mb_law_take (A : Ad) : MS (O A) :=
  (mSeq (O A) (mDrSet A.d A.a A.b 0 3 (mBin (O A) dAdd (mDrI A.d A.a A.b 0 3) (mC (O A) (.int 1))))
  (mSeq (O A) (mIfS (O A) (mAnd (O A) (mTest (O A) (mBin (O A) dEq (mDrI A.d A.a A.b 0 1) (mC (O A) (.int 0)))) (mDrNe A.d A.a A.b 0 0)) (mDrPop A.d A.a A.b 0) (mNext (O A)))
  (mSeq (O A) (mIfS (O A) (mTest (O A) (mBin (O A) dGt (mDrI A.d A.a A.b 0 1) (mC (O A) (.int 0))))
    (mSeq (O A) (mAsg (O A) (mBin (O A) dMod (mDrI A.d A.a A.b 0 1) (mVar (O A) 1)) (fName 2))
    (mSeq (O A) (mDrSet A.d A.a A.b 0 1 (mBin (O A) dDiv (mDrI A.d A.a A.b 0 1) (mVar (O A) 1))) (mRet (O A) (mVar (O A) 2)))) (mNext (O A)))
  (mSeq (O A) (mAsg (O A) (mC (O A) (.int 17)) (fName 3))
  (mSeq (O A) (mIfS (O A) (mDrNe A.d A.a A.b 0 2) (mAsg (O A) (mDrIx A.d A.a A.b 0 2 (mBin (O A) dMod (mDrI A.d A.a A.b 0 3) (mDrLen A.d A.a A.b 0 2))) (fName 3)) (mNext (O A)))
  (mSeq (O A) (mAsg (O A) (mC (O A) (.int 0)) (fName 2))
  (mSeq (O A) (mAsg (O A) (mC (O A) (.int 1)) (fName 4))
  (mSeq (O A) (mWhile (O A) (fun _ _ => 100) (mTest (O A) (mBin (O A) dLt (mVar (O A) 4) (mVar (O A) 1)))
    (mSeq (O A) (mAsg (O A) (mBin (O A) dAdd (mBin (O A) dMul (mVar (O A) 2) (mC (O A) (.int 1000000007))) (mCall (O A) 2 (m_law_mixed A) (mCons (O A) (mVar (O A) 3) (mCons (O A) (mBin (O A) dAdd (mDrI A.d A.a A.b 0 3) (mBin (O A) dMul (mC (O A) (.int 1009)) (mBin (O A) dMod (mVar (O A) 2) (mC (O A) (.int 97))))) (mNil (O A)))))) (fName 2))
    (mAsg (O A) (mBin (O A) dMul (mVar (O A) 4) (mC (O A) (.int 1000000007))) (fName 4))))
  (mRet (O A) (mBin (O A) dMod (mVar (O A) 2) (mVar (O A) 1)))))))))))
def m_law_take (A : Ad) : List D → Dr → R Dr D := runF (O A) 5 (mb_law_take A)
/-! law_number -/
def mb_law_number (A : Ad) : MS (O A) :=
  (mSeq (O A) (mAsg (O A) (mCall (O A) 2 (m_law_take A) (mCons (O A) (mVar (O A) 0) (mCons (O A) (mC (O A) (.int 8)) (mNil (O A))))) (fName 1))
  (mSeq (O A) (mIfS (O A) (mTest (O A) (mBin (O A) dLt (mVar (O A) 1) (mC (O A) (.int 6))))
  (mRet (O A) (mBin (O A) dSub (mCall (O A) 2 (m_law_take A) (mCons (O A) (mVar (O A) 0) (mCons (O A) (mC (O A) (.int 12)) (mNil (O A))))) (mC (O A) (.int 3))))
  (mNext (O A)))
  (mSeq (O A) (mAsg (O A) (mCall (O A) 2 (m_law_take A) (mCons (O A) (mVar (O A) 0) (mCons (O A) (mBin (O A) dIdx (mCl (O A) dList (mCons (O A) (mBin (O A) dPow (mC (O A) (.int 10)) (mC (O A) (.int 6))) (mCons (O A) (mBin (O A) dPow (mC (O A) (.int 10)) (mC (O A) (.int 40))) (mNil (O A))))) (mBin (O A) dSub (mVar (O A) 1) (mC (O A) (.int 6)))) (mNil (O A))))) (fName 2))
  (mRet (O A) (mBin (O A) dIdx (mCl (O A) dList (mCons (O A) (mVar (O A) 2) (mCons (O A) (mBin (O A) dSub (mC (O A) (.int 0)) (mVar (O A) 2)) (mNil (O A))))) (mCall (O A) 2 (m_law_take A) (mCons (O A) (mVar (O A) 0) (mCons (O A) (mC (O A) (.int 2)) (mNil (O A))))))))))
def m_law_number (A : Ad) : List D → Dr → R Dr D := runF (O A) 3 (mb_law_number A)
/-! law_great -/
def mb_law_great (A : Ad) : MS (O A) :=
  (mSeq (O A) (mAsg (O A) (mCall (O A) 2 (m_law_take A) (mCons (O A) (mVar (O A) 0) (mCons (O A) (mC (O A) (.int 8)) (mNil (O A))))) (fName 1))
  (mSeq (O A) (mAsg (O A) (mCl (O A) dList (mCons (O A) (mBin (O A) dSub (mBin (O A) dPow (mC (O A) (.int 10)) (mC (O A) (.int 40))) (mC (O A) (.int 1))) (mCons (O A) (mBin (O A) dSub (mC (O A) (.int 1)) (mBin (O A) dPow (mC (O A) (.int 10)) (mC (O A) (.int 40)))) (mCons (O A) (mBin (O A) dPow (mC (O A) (.int 10)) (mC (O A) (.int 30))) (mCons (O A) (mBin (O A) dSub (mC (O A) (.int 0)) (mBin (O A) dPow (mC (O A) (.int 10)) (mC (O A) (.int 30)))) (mCons (O A) (mBin (O A) dSub (mBin (O A) dPow (mC (O A) (.int 10)) (mC (O A) (.int 30))) (mC (O A) (.int 1))) (mCons (O A) (mBin (O A) dAdd (mBin (O A) dPow (mC (O A) (.int 10)) (mC (O A) (.int 30))) (mC (O A) (.int 1))) (mCons (O A) (mBin (O A) dPow (mC (O A) (.int 10)) (mC (O A) (.int 20))) (mCons (O A) (mC (O A) (.int 0)) (mNil (O A))))))))))) (fName 2))
  (mSeq (O A) (mIfS (O A) (mTest (O A) (mBin (O A) dLt (mVar (O A) 1) (mC (O A) (.int 4))))
  (mRet (O A) (mCall (O A) 1 (m_law_number A) (mCons (O A) (mVar (O A) 0) (mNil (O A)))))
  (mNext (O A)))
  (mSeq (O A) (mIfS (O A) (mTest (O A) (mBin (O A) dLt (mVar (O A) 1) (mC (O A) (.int 6))))
  (mRet (O A) (mBin (O A) dIdx (mVar (O A) 2) (mCall (O A) 2 (m_law_take A) (mCons (O A) (mVar (O A) 0) (mCons (O A) (mC (O A) (.int 8)) (mNil (O A)))))))
  (mNext (O A)))
  (mRet (O A) (mBin (O A) dMul (mBin (O A) dIdx (mCl (O A) dList (mCons (O A) (mC (O A) (.int 1)) (mCons (O A) (mUn (O A) dNeg (mC (O A) (.int 1))) (mNil (O A))))) (mCall (O A) 2 (m_law_take A) (mCons (O A) (mVar (O A) 0) (mCons (O A) (mC (O A) (.int 2)) (mNil (O A)))))) (mCall (O A) 2 (m_law_take A) (mCons (O A) (mVar (O A) 0) (mCons (O A) (mBin (O A) dIdx (mCl (O A) dList (mCons (O A) (mBin (O A) dPow (mC (O A) (.int 10)) (mC (O A) (.int 20))) (mCons (O A) (mBin (O A) dPow (mC (O A) (.int 10)) (mC (O A) (.int 31))) (mCons (O A) (mBin (O A) dPow (mC (O A) (.int 10)) (mC (O A) (.int 40))) (mNil (O A)))))) (mCall (O A) 2 (m_law_take A) (mCons (O A) (mVar (O A) 0) (mCons (O A) (mC (O A) (.int 3)) (mNil (O A)))))) (mNil (O A)))))))))))
def m_law_great (A : Ad) : List D → Dr → R Dr D := runF (O A) 3 (mb_law_great A)
/-! law_same -/
def lc_law_same_0 (A : Ad) (mrec : List D → Dr → R Dr D) : MA (O A) :=
  (mLc (O A) (mItA (O A) dZip (mCons (O A) (mVar (O A) 0) (mCons (O A) (mVar (O A) 1) (mNil (O A))))) (fTup 2 (fCons (fName 2) (fCons (fName 3) fNil))) (mYes (O A)) (mCall (O A) 2 mrec (mCons (O A) (mVar (O A) 2) (mCons (O A) (mVar (O A) 3) (mNil (O A))))) [2, 3])
def mb_law_same (A : Ad) (mrec : List D → Dr → R Dr D) : MS (O A) :=
  (mSeq (O A) (mIfS (O A) (mTruth (O A) (mIsT (O A) (mVar (O A) 1) (mCons (O A) (mC (O A) (.ty "list")) (mCons (O A) (mC (O A) (.ty "tuple")) (mNil (O A))))))
  (mSeq (O A) (mIfS (O A) (mOr (O A) (mTest (O A) (mBin (O A) dNe (mCl (O A) dIsI (mCons (O A) (mVar (O A) 0) (mCons (O A) (mC (O A) (.ty "list")) (mNil (O A))))) (mCl (O A) dIsI (mCons (O A) (mVar (O A) 1) (mCons (O A) (mC (O A) (.ty "list")) (mNil (O A))))))) (mTest (O A) (mBin (O A) dNe (mCl (O A) dIsI (mCons (O A) (mVar (O A) 0) (mCons (O A) (mC (O A) (.ty "tuple")) (mNil (O A))))) (mCl (O A) dIsI (mCons (O A) (mVar (O A) 1) (mCons (O A) (mC (O A) (.ty "tuple")) (mNil (O A))))))))
  (mRet (O A) (mC (O A) (.bl false)))
  (mNext (O A)))
  (mRet (O A) (mAndV (O A) (mBin (O A) dEq (mCl (O A) dLen (mCons (O A) (mVar (O A) 0) (mNil (O A)))) (mCl (O A) dLen (mCons (O A) (mVar (O A) 1) (mNil (O A))))) (mCl (O A) dAll (mCons (O A) (mLst (O A) (lc_law_same_0 A mrec)) (mNil (O A)))))))
  (mNext (O A)))
  (mSeq (O A) (mIfS (O A) (mTruth (O A) (mIsT (O A) (mVar (O A) 1) (mCons (O A) (mC (O A) (.ty "bool")) (mCons (O A) (mC (O A) (.ty "int")) (mNil (O A))))))
  (mRet (O A) (mAndV (O A) (mCl (O A) dIsI (mCons (O A) (mVar (O A) 0) (mCons (O A) (mC (O A) (.ty "int")) (mNil (O A))))) (mAndV (O A) (mBin (O A) dEq (mCl (O A) dIsI (mCons (O A) (mVar (O A) 0) (mCons (O A) (mC (O A) (.ty "bool")) (mNil (O A))))) (mCl (O A) dIsI (mCons (O A) (mVar (O A) 1) (mCons (O A) (mC (O A) (.ty "bool")) (mNil (O A)))))) (mBin (O A) dEq (mVar (O A) 0) (mVar (O A) 1)))))
  (mNext (O A)))
  (mRet (O A) (mAndV (O A) (mBin (O A) dIs (mCl (O A) dIsI (mCons (O A) (mVar (O A) 0) (mCons (O A) (mC (O A) (.ty "bool")) (mNil (O A))))) (mC (O A) (.bl false))) (mBin (O A) dEq (mVar (O A) 0) (mVar (O A) 1))))))
def mN_law_same (A : Ad) : Nat → List D → Dr → R Dr D
  | 0 => fun _ _ => .bad
  | n + 1 => runF (O A) 4 (mb_law_same A (mN_law_same A n))
def m_law_same (A : Ad) : List D → Dr → R Dr D := mN_law_same A 4
end S

namespace S
open PySem PySem.Spec PyProof.Rows L2 RZ Mr
theorem mixed_ok (A : Ad) (z k : Int) (s : Dr) (h0 : 0 ≤ k) (h1 : k ≤ 2000000) : ∃ r, m_law_mixed A [.int z, .int k] s = .ok (.int r) s ∧ 0 ≤ r ∧ r < 1000000007 := by
  have a1 : 0 ≤ z.fmod 2147483647 := Int.fmod_nonneg_of_pos z (by decide)
  have a2 : z.fmod 2147483647 < 2147483647 := Int.fmod_lt_of_pos z (by decide)
  have c1 : CModG z 2147483647 := by unfold CModG; decide
  have c2 : CMulG 7919 k := mulG (by decide) (by decide) (by omega) (by omega)
  have c3 : CPowG (z.fmod 2147483647 + 7919 * k + 104729) 5 := ⟨by decide, by decide, by omega⟩
  have c4 : ∀ y : Int, CModG y 2147483629 := fun y => by unfold CModG; decide
  have c9 : ∀ y : Int, CModG y 1000000007 := fun y => by unfold CModG; decide
  have f1 : 0 ≤ ((z.fmod 2147483647 + 7919 * k + 104729) ^ 5).fmod 2147483629 := Int.fmod_nonneg_of_pos _ (by decide)
  have f2 : ((z.fmod 2147483647 + 7919 * k + 104729) ^ 5).fmod 2147483629 < 2147483629 := Int.fmod_lt_of_pos _ (by decide)
  have c5 : CMulG (((z.fmod 2147483647 + 7919 * k + 104729) ^ 5).fmod 2147483629) 48271 := mulG (by omega) (by omega) (by decide) (by decide)
  have c6 : CMulG 40503 k := mulG (by decide) (by decide) (by omega) (by omega)
  have c7 : CMulG (40503 * k) k := mulG (by omega) (by omega) (by omega) (by omega)
  have k1 : 0 ≤ 40503 * k * k := Int.mul_nonneg (by omega) h0
  have k2 : 40503 * k * k ≤ 40503 * 2000000 * 2000000 := Int.mul_le_mul (by omega) h1 h0 (by omega)
  have c8 : CPowG (((z.fmod 2147483647 + 7919 * k + 104729) ^ 5).fmod 2147483629 * 48271 + 40503 * k * k + 13) 3 := ⟨by decide, by decide, by omega⟩
  refine ⟨_, ?_, Int.fmod_nonneg_of_pos ((((z.fmod 2147483647 + 7919 * k + 104729) ^ 5).fmod 2147483629 * 48271 + 40503 * k * k + 13) ^ 3) (by decide), Int.fmod_lt_of_pos _ (by decide)⟩
  simp only [m_law_mixed, mb_law_mixed, runF, mSeq, seqS, mAsg, mBin, mUn, mVar, mC, mRet, mNext, mIfS, mTest, mTruth, mAnd, mOr, mNot, mAndV, mOrV, mNotV, mCl, mCons, mNil, mCall, mDrop, mDrI, mDrNe, mDrIx, mDrLen, mDrSet, mDrPop, drL, isDr0, toS, fName, R.lift, bind_ok, bind_err, bind_bad, eAdd, eSub, eMul, eDiv, eMod, ePow, eNeg, eLt, eLe, eGt, eGe, eEqI, eNeI, eEqS, eEqB, eNeB, eIdxL, eIdxT, eBool, eAbs, Bool.false_eq_true, dList, dTup, if_true, if_false, if_pos, List.map_cons, List.map_nil, List.length_cons, List.length_nil, List.replicate, List.cons_append, List.nil_append, List.getElem?_cons_zero, List.getElem?_cons_succ, List.set_cons_zero, List.set_cons_succ, Nat.reduceAdd, Nat.reduceSub, Nat.reduceLeDiff, Nat.reduceLT, Nat.reduceMul, Int.reduceToNat, Int.reduceEq, Int.reduceAdd, Int.reduceSub, Int.reduceNeg, Bool.not_true, Bool.not_false, decide_true, decide_false, reduceIte, Nat.reduceEqDiff, ite_true, ite_false, c1, c2, c3, c4, c5, c6, c7, c8, c9]
theorem loop_ok (A : Ad) {n seed : Int} {s : Dr} (hn : n ≤ 10 ^ 150) (k0 : 0 ≤ s.k) (k1 : s.k ≤ 1000000) : ∀ (m : Nat) (found reach : Int), 0 ≤ found → found < reach → n ≤ reach * 1000 ^ m →
    ∃ f' r' : Int, whileL (O A) (mTest (O A) (mBin (O A) dLt (mVar (O A) 4) (mVar (O A) 1)))
    (mSeq (O A) (mAsg (O A) (mBin (O A) dAdd (mBin (O A) dMul (mVar (O A) 2) (mC (O A) (.int 1000000007))) (mCall (O A) 2 (m_law_mixed A) (mCons (O A) (mVar (O A) 3) (mCons (O A) (mBin (O A) dAdd (mDrI A.d A.a A.b 0 3) (mBin (O A) dMul (mC (O A) (.int 1009)) (mBin (O A) dMod (mVar (O A) 2) (mC (O A) (.int 97))))) (mNil (O A)))))) (fName 2))
    (mAsg (O A) (mBin (O A) dMul (mVar (O A) 4) (mC (O A) (.int 1000000007))) (fName 4))) (m + 1) [.sh (.ref A.d), .sh (.int n), .sh (.int found), .sh (.int seed), .sh (.int reach)] s = .nx [.sh (.ref A.d), .sh (.int n), .sh (.int f'), .sh (.int seed), .sh (.int r')] s := by
  intro m
  induction m with
  | zero =>
    intro found reach h0 h1 h2
    refine ⟨found, reach, ?_⟩
    have h3 : ¬ reach < n := by simpa using h2
    simp only [whileL, runF, mSeq, seqS, mAsg, mBin, mUn, mVar, mC, mRet, mNext, mIfS, mTest, mTruth, mAnd, mOr, mNot, mAndV, mOrV, mNotV, mCl, mCons, mNil, mCall, mDrop, mDrI, mDrNe, mDrIx, mDrLen, mDrSet, mDrPop, drL, isDr0, toS, fName, R.lift, bind_ok, bind_err, bind_bad, eAdd, eSub, eMul, eDiv, eMod, ePow, eNeg, eLt, eLe, eGt, eGe, eEqI, eNeI, eEqS, eEqB, eNeB, eIdxL, eIdxT, eBool, eAbs, Bool.false_eq_true, dList, dTup, if_true, if_false, if_pos, List.map_cons, List.map_nil, List.length_cons, List.length_nil, List.replicate, List.cons_append, List.nil_append, List.getElem?_cons_zero, List.getElem?_cons_succ, List.set_cons_zero, List.set_cons_succ, Nat.reduceAdd, Nat.reduceSub, Nat.reduceLeDiff, Nat.reduceLT, Nat.reduceMul, Int.reduceToNat, Int.reduceEq, Int.reduceAdd, Int.reduceSub, Int.reduceNeg, Bool.not_true, Bool.not_false, decide_true, decide_false, reduceIte, Nat.reduceEqDiff, ite_true, ite_false, h3]
  | succ m ih =>
    intro found reach h0 h1 h2
    by_cases h3 : reach < n
    · have g1 : 0 ≤ found.fmod 97 := Int.fmod_nonneg_of_pos found (by decide)
      have g2 : found.fmod 97 < 97 := Int.fmod_lt_of_pos found (by decide)
      obtain ⟨r, e, r0, r1⟩ := mixed_ok A seed (s.k + 1009 * found.fmod 97) s (by omega) (by omega)
      have c1 : CMulG found 1000000007 := mulG (by omega) (by omega) (by decide) (by decide)
      have c2 : CMulG 1009 (found.fmod 97) := mulG (by decide) (by decide) (by omega) (by omega)
      have c3 : CMulG reach 1000000007 := mulG (by omega) (by omega) (by decide) (by decide)
      have c4 : CModG found 97 := by unfold CModG; decide
      have hp : (0 : Int) ≤ 1000 ^ m := Int.le_of_lt (Int.pow_pos (by decide))
      have h4 : n ≤ reach * 1000000007 * 1000 ^ m := by
        refine Int.le_trans h2 ?_
        rw [Int.pow_succ, Int.mul_comm (1000 ^ m) 1000, ← Int.mul_assoc]
        exact Int.mul_le_mul_of_nonneg_right (by omega) hp
      obtain ⟨f', r', e2⟩ := ih (found * 1000000007 + r) (reach * 1000000007) (by omega) (by omega) h4
      refine ⟨f', r', ?_⟩
      rw [← e2]
      rw [whileL]
      simp only [runF, mSeq, seqS, mAsg, mBin, mUn, mVar, mC, mRet, mNext, mIfS, mTest, mTruth, mAnd, mOr, mNot, mAndV, mOrV, mNotV, mCl, mCons, mNil, mCall, mDrop, mDrI, mDrNe, mDrIx, mDrLen, mDrSet, mDrPop, drL, isDr0, toS, fName, R.lift, bind_ok, bind_err, bind_bad, eAdd, eSub, eMul, eDiv, eMod, ePow, eNeg, eLt, eLe, eGt, eGe, eEqI, eNeI, eEqS, eEqB, eNeB, eIdxL, eIdxT, eBool, eAbs, Bool.false_eq_true, dList, dTup, if_true, if_false, if_pos, List.map_cons, List.map_nil, List.length_cons, List.length_nil, List.replicate, List.cons_append, List.nil_append, List.getElem?_cons_zero, List.getElem?_cons_succ, List.set_cons_zero, List.set_cons_succ, Nat.reduceAdd, Nat.reduceSub, Nat.reduceLeDiff, Nat.reduceLT, Nat.reduceMul, Int.reduceToNat, Int.reduceEq, Int.reduceAdd, Int.reduceSub, Int.reduceNeg, Bool.not_true, Bool.not_false, decide_true, decide_false, reduceIte, Nat.reduceEqDiff, ite_true, ite_false, h3, c1, c2, c3, c4, e]
    · refine ⟨found, reach, ?_⟩
      simp only [whileL, runF, mSeq, seqS, mAsg, mBin, mUn, mVar, mC, mRet, mNext, mIfS, mTest, mTruth, mAnd, mOr, mNot, mAndV, mOrV, mNotV, mCl, mCons, mNil, mCall, mDrop, mDrI, mDrNe, mDrIx, mDrLen, mDrSet, mDrPop, drL, isDr0, toS, fName, R.lift, bind_ok, bind_err, bind_bad, eAdd, eSub, eMul, eDiv, eMod, ePow, eNeg, eLt, eLe, eGt, eGe, eEqI, eNeI, eEqS, eEqB, eNeB, eIdxL, eIdxT, eBool, eAbs, Bool.false_eq_true, dList, dTup, if_true, if_false, if_pos, List.map_cons, List.map_nil, List.length_cons, List.length_nil, List.replicate, List.cons_append, List.nil_append, List.getElem?_cons_zero, List.getElem?_cons_succ, List.set_cons_zero, List.set_cons_succ, Nat.reduceAdd, Nat.reduceSub, Nat.reduceLeDiff, Nat.reduceLT, Nat.reduceMul, Int.reduceToNat, Int.reduceEq, Int.reduceAdd, Int.reduceSub, Int.reduceNeg, Bool.not_true, Bool.not_false, decide_true, decide_false, reduceIte, Nat.reduceEqDiff, ite_true, ite_false, h3]
theorem take_ok (A : Ad) {b n : Int} {s : Dr} (h : Ok b s) (hb : b < 1000000) (h1 : 1 ≤ n) (h2 : n ≤ 10 ^ 150) : ∃ r s', m_law_take A [.ref A.d, .int n] s = .ok (.int r) s' ∧ 0 ≤ r ∧ r < n ∧ Ok (b + 1) s' := by
  obtain ⟨xs, n0, zs, k⟩ := s
  obtain ⟨hx, hn, hk, hkb⟩ := h
  dsimp only at hx hn hk hkb
  have m0 : n ≠ 0 := by omega
  have m1 : ∀ x : Int, CModG x n := fun x => m0
  have m2 : ∀ x : Int, CDivG x n := fun x => divG m0 (by omega) (by omega)
  have ret : ∀ (x : Int) (ys : List Int), 0 < x → (∀ y ∈ ys, 0 < y) → 0 ≤ x.fmod n ∧ x.fmod n < n ∧ Ok (b + 1) ⟨ys, x.fdiv n, zs, k + 1⟩ := fun x ys hx hy =>
    ⟨Int.fmod_nonneg_of_pos x (by omega), Int.fmod_lt_of_pos x (by omega), hy, Int.fdiv_nonneg (by omega) (by omega), by show 0 ≤ k + 1; omega, by show k + 1 ≤ b + 1; omega⟩
  by_cases hz : n0 = 0
  · subst hz
    cases xs with
    | cons x xs =>
      have x0 : 0 < x := hx x List.mem_cons_self
      refine ⟨_, _, ?_, ret x xs x0 fun y hy => hx y (List.mem_cons_of_mem _ hy)⟩
      simp only [m_law_take, mb_law_take, runF, mSeq, seqS, mAsg, mBin, mUn, mVar, mC, mRet, mNext, mIfS, mTest, mTruth, mAnd, mOr, mNot, mAndV, mOrV, mNotV, mCl, mCons, mNil, mCall, mDrop, mDrI, mDrNe, mDrIx, mDrLen, mDrSet, mDrPop, drL, isDr0, toS, fName, R.lift, bind_ok, bind_err, bind_bad, eAdd, eSub, eMul, eDiv, eMod, ePow, eNeg, eLt, eLe, eGt, eGe, eEqI, eNeI, eEqS, eEqB, eNeB, eIdxL, eIdxT, eBool, eAbs, Bool.false_eq_true, dList, dTup, if_true, if_false, if_pos, List.map_cons, List.map_nil, List.length_cons, List.length_nil, List.replicate, List.cons_append, List.nil_append, List.getElem?_cons_zero, List.getElem?_cons_succ, List.set_cons_zero, List.set_cons_succ, Nat.reduceAdd, Nat.reduceSub, Nat.reduceLeDiff, Nat.reduceLT, Nat.reduceMul, Int.reduceToNat, Int.reduceEq, Int.reduceAdd, Int.reduceSub, Int.reduceNeg, Bool.not_true, Bool.not_false, decide_true, decide_false, reduceIte, Nat.reduceEqDiff, ite_true, ite_false, Option.map_some, m1, m2, List.isEmpty_cons, x0]
    | nil =>
      have ok : Ok (b + 1) ⟨[], 0, zs, k + 1⟩ := ⟨hx, Int.le_refl _, by show 0 ≤ k + 1; omega, by show k + 1 ≤ b + 1; omega⟩
      have fin : ∀ f : Int, 0 ≤ f.fmod n ∧ f.fmod n < n := fun f => ⟨Int.fmod_nonneg_of_pos f (by omega), Int.fmod_lt_of_pos f (by omega)⟩
      have lp : ∀ seed : Int, _ := fun seed => loop_ok A (n := n) (seed := seed) (s := ⟨[], 0, zs, k + 1⟩) h2 (by show 0 ≤ k + 1; omega) (by show k + 1 ≤ 1000000; omega) 99 0 1 (by decide) (by decide) (by
        refine Int.le_trans h2 ?_
        decide +kernel)
      cases zs with
      | nil =>
        obtain ⟨f', r', e⟩ := lp 17
        refine ⟨f'.fmod n, _, ?_, (fin f').1, (fin f').2, ok⟩
        simp only [m_law_take, mb_law_take, mWhile, runF, mSeq, seqS, mAsg, mBin, mUn, mVar, mC, mRet, mNext, mIfS, mTest, mTruth, mAnd, mOr, mNot, mAndV, mOrV, mNotV, mCl, mCons, mNil, mCall, mDrop, mDrI, mDrNe, mDrIx, mDrLen, mDrSet, mDrPop, drL, isDr0, toS, fName, R.lift, bind_ok, bind_err, bind_bad, eAdd, eSub, eMul, eDiv, eMod, ePow, eNeg, eLt, eLe, eGt, eGe, eEqI, eNeI, eEqS, eEqB, eNeB, eIdxL, eIdxT, eBool, eAbs, Bool.false_eq_true, dList, dTup, if_true, if_false, if_pos, List.map_cons, List.map_nil, List.length_cons, List.length_nil, List.replicate, List.cons_append, List.nil_append, List.getElem?_cons_zero, List.getElem?_cons_succ, List.set_cons_zero, List.set_cons_succ, Nat.reduceAdd, Nat.reduceSub, Nat.reduceLeDiff, Nat.reduceLT, Nat.reduceMul, Int.reduceToNat, Int.reduceEq, Int.reduceAdd, Int.reduceSub, Int.reduceNeg, Bool.not_true, Bool.not_false, decide_true, decide_false, reduceIte, Nat.reduceEqDiff, ite_true, ite_false, Option.map_some, m1, m2, List.isEmpty_nil, Int.lt_irrefl]
        rw [e]
        simp only [runF, mSeq, seqS, mAsg, mBin, mUn, mVar, mC, mRet, mNext, mIfS, mTest, mTruth, mAnd, mOr, mNot, mAndV, mOrV, mNotV, mCl, mCons, mNil, mCall, mDrop, mDrI, mDrNe, mDrIx, mDrLen, mDrSet, mDrPop, drL, isDr0, toS, fName, R.lift, bind_ok, bind_err, bind_bad, eAdd, eSub, eMul, eDiv, eMod, ePow, eNeg, eLt, eLe, eGt, eGe, eEqI, eNeI, eEqS, eEqB, eNeB, eIdxL, eIdxT, eBool, eAbs, Bool.false_eq_true, dList, dTup, if_true, if_false, if_pos, List.map_cons, List.map_nil, List.length_cons, List.length_nil, List.replicate, List.cons_append, List.nil_append, List.getElem?_cons_zero, List.getElem?_cons_succ, List.set_cons_zero, List.set_cons_succ, Nat.reduceAdd, Nat.reduceSub, Nat.reduceLeDiff, Nat.reduceLT, Nat.reduceMul, Int.reduceToNat, Int.reduceEq, Int.reduceAdd, Int.reduceSub, Int.reduceNeg, Bool.not_true, Bool.not_false, decide_true, decide_false, reduceIte, Nat.reduceEqDiff, ite_true, ite_false, m1]
      | cons z zs =>
        have l0 : ((zs.length + 1 : Nat) : Int) ≠ 0 := by omega
        have l1 : CModG (k + 1) ((zs.length + 1 : Nat) : Int) := l0
        obtain ⟨y, ey, _⟩ := atI_ok (xs := z :: zs) (i := (k + 1).fmod ((zs.length + 1 : Nat) : Int)) (Int.fmod_nonneg_of_pos _ (by omega)) (by rw [List.length_cons]; exact Int.fmod_lt_of_pos _ (by omega))
        obtain ⟨f', r', e⟩ := lp y
        refine ⟨f'.fmod n, _, ?_, (fin f').1, (fin f').2, ok⟩
        simp only [m_law_take, mb_law_take, mWhile, runF, mSeq, seqS, mAsg, mBin, mUn, mVar, mC, mRet, mNext, mIfS, mTest, mTruth, mAnd, mOr, mNot, mAndV, mOrV, mNotV, mCl, mCons, mNil, mCall, mDrop, mDrI, mDrNe, mDrIx, mDrLen, mDrSet, mDrPop, drL, isDr0, toS, fName, R.lift, bind_ok, bind_err, bind_bad, eAdd, eSub, eMul, eDiv, eMod, ePow, eNeg, eLt, eLe, eGt, eGe, eEqI, eNeI, eEqS, eEqB, eNeB, eIdxL, eIdxT, eBool, eAbs, Bool.false_eq_true, dList, dTup, if_true, if_false, if_pos, List.map_cons, List.map_nil, List.length_cons, List.length_nil, List.replicate, List.cons_append, List.nil_append, List.getElem?_cons_zero, List.getElem?_cons_succ, List.set_cons_zero, List.set_cons_succ, Nat.reduceAdd, Nat.reduceSub, Nat.reduceLeDiff, Nat.reduceLT, Nat.reduceMul, Int.reduceToNat, Int.reduceEq, Int.reduceAdd, Int.reduceSub, Int.reduceNeg, Bool.not_true, Bool.not_false, decide_true, decide_false, reduceIte, Nat.reduceEqDiff, ite_true, ite_false, Option.map_some, m1, m2, List.isEmpty_cons, List.isEmpty_nil, Int.lt_irrefl, l1, ey]
        rw [e]
        simp only [runF, mSeq, seqS, mAsg, mBin, mUn, mVar, mC, mRet, mNext, mIfS, mTest, mTruth, mAnd, mOr, mNot, mAndV, mOrV, mNotV, mCl, mCons, mNil, mCall, mDrop, mDrI, mDrNe, mDrIx, mDrLen, mDrSet, mDrPop, drL, isDr0, toS, fName, R.lift, bind_ok, bind_err, bind_bad, eAdd, eSub, eMul, eDiv, eMod, ePow, eNeg, eLt, eLe, eGt, eGe, eEqI, eNeI, eEqS, eEqB, eNeB, eIdxL, eIdxT, eBool, eAbs, Bool.false_eq_true, dList, dTup, if_true, if_false, if_pos, List.map_cons, List.map_nil, List.length_cons, List.length_nil, List.replicate, List.cons_append, List.nil_append, List.getElem?_cons_zero, List.getElem?_cons_succ, List.set_cons_zero, List.set_cons_succ, Nat.reduceAdd, Nat.reduceSub, Nat.reduceLeDiff, Nat.reduceLT, Nat.reduceMul, Int.reduceToNat, Int.reduceEq, Int.reduceAdd, Int.reduceSub, Int.reduceNeg, Bool.not_true, Bool.not_false, decide_true, decide_false, reduceIte, Nat.reduceEqDiff, ite_true, ite_false, m1]
  · have x0 : 0 < n0 := by omega
    have hz' : decide (n0 = 0) = false := decide_eq_false hz
    refine ⟨_, _, ?_, ret n0 xs x0 hx⟩
    simp only [m_law_take, mb_law_take, runF, mSeq, seqS, mAsg, mBin, mUn, mVar, mC, mRet, mNext, mIfS, mTest, mTruth, mAnd, mOr, mNot, mAndV, mOrV, mNotV, mCl, mCons, mNil, mCall, mDrop, mDrI, mDrNe, mDrIx, mDrLen, mDrSet, mDrPop, drL, isDr0, toS, fName, R.lift, bind_ok, bind_err, bind_bad, eAdd, eSub, eMul, eDiv, eMod, ePow, eNeg, eLt, eLe, eGt, eGe, eEqI, eNeI, eEqS, eEqB, eNeB, eIdxL, eIdxT, eBool, eAbs, Bool.false_eq_true, dList, dTup, if_true, if_false, if_pos, List.map_cons, List.map_nil, List.length_cons, List.length_nil, List.replicate, List.cons_append, List.nil_append, List.getElem?_cons_zero, List.getElem?_cons_succ, List.set_cons_zero, List.set_cons_succ, Nat.reduceAdd, Nat.reduceSub, Nat.reduceLeDiff, Nat.reduceLT, Nat.reduceMul, Int.reduceToNat, Int.reduceEq, Int.reduceAdd, Int.reduceSub, Int.reduceNeg, Bool.not_true, Bool.not_false, decide_true, decide_false, reduceIte, Nat.reduceEqDiff, ite_true, ite_false, Option.map_some, m1, m2, hz', x0]
theorem at0 {α : Type} (a : α) (r : List α) : atI (a :: r) 0 = some a := by
  unfold atI ixN
  rw [if_pos (by decide), if_pos (by simp)]
  rfl
theorem at1 {α : Type} (a b : α) (r : List α) : atI (a :: b :: r) 1 = some b := by
  unfold atI ixN
  rw [if_pos (by decide), if_pos (by simp; omega)]
  rfl
theorem number_ok (A : Ad) {b : Int} {s : Dr} (h : Ok b s) (hb : b + 3 ≤ 1000000) : ∃ r s', m_law_number A [.ref A.d] s = .ok (.int r) s' ∧ -(10 ^ 40) < r ∧ r < 10 ^ 40 ∧ Ok (b + 3) s' := by
  obtain ⟨w, s1, e1, w0, w1, k1⟩ := take_ok A (n := 8) h (by omega) (by decide) (by decide)
  by_cases hw : w < 6
  · obtain ⟨r, s2, e2, r0, r1, k2⟩ := take_ok A (n := 12) k1 (by omega) (by decide) (by decide)
    refine ⟨r - 3, s2, ?_, by omega, by omega, k2.mono (by omega)⟩
    simp only [m_law_number, mb_law_number, runF, mSeq, seqS, mAsg, mBin, mUn, mVar, mC, mRet, mNext, mIfS, mTest, mTruth, mAnd, mOr, mNot, mAndV, mOrV, mNotV, mCl, mCons, mNil, mCall, mDrop, mDrI, mDrNe, mDrIx, mDrLen, mDrSet, mDrPop, drL, isDr0, toS, fName, R.lift, bind_ok, bind_err, bind_bad, eAdd, eSub, eMul, eDiv, eMod, ePow, eNeg, eLt, eLe, eGt, eGe, eEqI, eNeI, eEqS, eEqB, eNeB, eIdxL, eIdxT, eBool, eAbs, Bool.false_eq_true, dList, dTup, if_true, if_false, if_pos, List.map_cons, List.map_nil, List.length_cons, List.length_nil, List.replicate, List.cons_append, List.nil_append, List.getElem?_cons_zero, List.getElem?_cons_succ, List.set_cons_zero, List.set_cons_succ, Nat.reduceAdd, Nat.reduceSub, Nat.reduceLeDiff, Nat.reduceLT, Nat.reduceMul, Int.reduceToNat, Int.reduceEq, Int.reduceAdd, Int.reduceSub, Int.reduceNeg, Bool.not_true, Bool.not_false, decide_true, decide_false, reduceIte, Nat.reduceEqDiff, ite_true, ite_false, e1, e2, hw]
  · have c6 : CPowG 10 6 := by decide
    have c40 : CPowG 10 40 := by decide
    have hw6 : w = 6 ∨ w = 7 := by omega
    have fin : ∀ (n : Int) (s1 : Dr), Ok (b + 1) s1 → 1 ≤ n → n ≤ 10 ^ 40 → ∃ (g : Int) (s2 : Dr) (t : Int) (s3 : Dr), m_law_take A [.ref A.d, .int n] s1 = .ok (.int g) s2 ∧ m_law_take A [.ref A.d, .int 2] s2 = .ok (.int t) s3 ∧ -(10 ^ 40) < g ∧ g < 10 ^ 40 ∧ (t = 0 ∨ t = 1) ∧ Ok (b + 3) s3 := by
      intro n s1 k1 n1 n2
      obtain ⟨g, s2, e2, g0, g1, k2⟩ := take_ok A (n := n) k1 (by omega) n1 (by omega)
      obtain ⟨t, s3, e3, t0, t1, k3⟩ := take_ok A (n := 2) k2 (by omega) (by decide) (by decide)
      exact ⟨g, s2, t, s3, e2, e3, by omega, by omega, by omega, k3.mono (by omega)⟩
    rcases hw6 with rfl | rfl
    · obtain ⟨g, s2, t, s3, e2, e3, g0, g1, ht, k3⟩ := fin (10 ^ 6) s1 k1 (by decide) (by decide)
      rcases ht with rfl | rfl
      · refine ⟨g, s3, ?_, g0, g1, k3⟩
        simp only [m_law_number, mb_law_number, runF, mSeq, seqS, mAsg, mBin, mUn, mVar, mC, mRet, mNext, mIfS, mTest, mTruth, mAnd, mOr, mNot, mAndV, mOrV, mNotV, mCl, mCons, mNil, mCall, mDrop, mDrI, mDrNe, mDrIx, mDrLen, mDrSet, mDrPop, drL, isDr0, toS, fName, R.lift, bind_ok, bind_err, bind_bad, eAdd, eSub, eMul, eDiv, eMod, ePow, eNeg, eLt, eLe, eGt, eGe, eEqI, eNeI, eEqS, eEqB, eNeB, eIdxL, eIdxT, eBool, eAbs, Bool.false_eq_true, dList, dTup, if_true, if_false, if_pos, List.map_cons, List.map_nil, List.length_cons, List.length_nil, List.replicate, List.cons_append, List.nil_append, List.getElem?_cons_zero, List.getElem?_cons_succ, List.set_cons_zero, List.set_cons_succ, Nat.reduceAdd, Nat.reduceSub, Nat.reduceLeDiff, Nat.reduceLT, Nat.reduceMul, Int.reduceToNat, Int.reduceEq, Int.reduceAdd, Int.reduceSub, Int.reduceNeg, Bool.not_true, Bool.not_false, decide_true, decide_false, reduceIte, Nat.reduceEqDiff, ite_true, ite_false, e1, e2, e3, hw, c6, c40, at0, at1]
      · refine ⟨0 - g, s3, ?_, by omega, by omega, k3⟩
        simp only [m_law_number, mb_law_number, runF, mSeq, seqS, mAsg, mBin, mUn, mVar, mC, mRet, mNext, mIfS, mTest, mTruth, mAnd, mOr, mNot, mAndV, mOrV, mNotV, mCl, mCons, mNil, mCall, mDrop, mDrI, mDrNe, mDrIx, mDrLen, mDrSet, mDrPop, drL, isDr0, toS, fName, R.lift, bind_ok, bind_err, bind_bad, eAdd, eSub, eMul, eDiv, eMod, ePow, eNeg, eLt, eLe, eGt, eGe, eEqI, eNeI, eEqS, eEqB, eNeB, eIdxL, eIdxT, eBool, eAbs, Bool.false_eq_true, dList, dTup, if_true, if_false, if_pos, List.map_cons, List.map_nil, List.length_cons, List.length_nil, List.replicate, List.cons_append, List.nil_append, List.getElem?_cons_zero, List.getElem?_cons_succ, List.set_cons_zero, List.set_cons_succ, Nat.reduceAdd, Nat.reduceSub, Nat.reduceLeDiff, Nat.reduceLT, Nat.reduceMul, Int.reduceToNat, Int.reduceEq, Int.reduceAdd, Int.reduceSub, Int.reduceNeg, Bool.not_true, Bool.not_false, decide_true, decide_false, reduceIte, Nat.reduceEqDiff, ite_true, ite_false, e1, e2, e3, hw, c6, c40, at0, at1]
    · obtain ⟨g, s2, t, s3, e2, e3, g0, g1, ht, k3⟩ := fin (10 ^ 40) s1 k1 (by decide) (by decide)
      rcases ht with rfl | rfl
      · refine ⟨g, s3, ?_, g0, g1, k3⟩
        simp only [m_law_number, mb_law_number, runF, mSeq, seqS, mAsg, mBin, mUn, mVar, mC, mRet, mNext, mIfS, mTest, mTruth, mAnd, mOr, mNot, mAndV, mOrV, mNotV, mCl, mCons, mNil, mCall, mDrop, mDrI, mDrNe, mDrIx, mDrLen, mDrSet, mDrPop, drL, isDr0, toS, fName, R.lift, bind_ok, bind_err, bind_bad, eAdd, eSub, eMul, eDiv, eMod, ePow, eNeg, eLt, eLe, eGt, eGe, eEqI, eNeI, eEqS, eEqB, eNeB, eIdxL, eIdxT, eBool, eAbs, Bool.false_eq_true, dList, dTup, if_true, if_false, if_pos, List.map_cons, List.map_nil, List.length_cons, List.length_nil, List.replicate, List.cons_append, List.nil_append, List.getElem?_cons_zero, List.getElem?_cons_succ, List.set_cons_zero, List.set_cons_succ, Nat.reduceAdd, Nat.reduceSub, Nat.reduceLeDiff, Nat.reduceLT, Nat.reduceMul, Int.reduceToNat, Int.reduceEq, Int.reduceAdd, Int.reduceSub, Int.reduceNeg, Bool.not_true, Bool.not_false, decide_true, decide_false, reduceIte, Nat.reduceEqDiff, ite_true, ite_false, e1, e2, e3, hw, c6, c40, at0, at1]
      · refine ⟨0 - g, s3, ?_, by omega, by omega, k3⟩
        simp only [m_law_number, mb_law_number, runF, mSeq, seqS, mAsg, mBin, mUn, mVar, mC, mRet, mNext, mIfS, mTest, mTruth, mAnd, mOr, mNot, mAndV, mOrV, mNotV, mCl, mCons, mNil, mCall, mDrop, mDrI, mDrNe, mDrIx, mDrLen, mDrSet, mDrPop, drL, isDr0, toS, fName, R.lift, bind_ok, bind_err, bind_bad, eAdd, eSub, eMul, eDiv, eMod, ePow, eNeg, eLt, eLe, eGt, eGe, eEqI, eNeI, eEqS, eEqB, eNeB, eIdxL, eIdxT, eBool, eAbs, Bool.false_eq_true, dList, dTup, if_true, if_false, if_pos, List.map_cons, List.map_nil, List.length_cons, List.length_nil, List.replicate, List.cons_append, List.nil_append, List.getElem?_cons_zero, List.getElem?_cons_succ, List.set_cons_zero, List.set_cons_succ, Nat.reduceAdd, Nat.reduceSub, Nat.reduceLeDiff, Nat.reduceLT, Nat.reduceMul, Int.reduceToNat, Int.reduceEq, Int.reduceAdd, Int.reduceSub, Int.reduceNeg, Bool.not_true, Bool.not_false, decide_true, decide_false, reduceIte, Nat.reduceEqDiff, ite_true, ite_false, e1, e2, e3, hw, c6, c40, at0, at1]
theorem great_ok (A : Ad) {b : Int} {s : Dr} (h : Ok b s) (hb : b + 4 ≤ 1000000) : ∃ r s', m_law_great A [.ref A.d] s = .ok (.int r) s' ∧ -(10 ^ 40) < r ∧ r < 10 ^ 40 ∧ Ok (b + 4) s' := by
  have c20 : CPowG 10 20 := by decide
  have c30 : CPowG 10 30 := by decide
  have c31 : CPowG 10 31 := by decide
  have c40 : CPowG 10 40 := by decide
  obtain ⟨w, s1, e1, w0, w1, k1⟩ := take_ok A (n := 8) h (by omega) (by decide) (by decide)
  by_cases hw : w < 4
  · obtain ⟨r, s2, e2, r0, r1, k2⟩ := number_ok A k1 (by omega)
    refine ⟨r, s2, ?_, r0, r1, k2.mono (by omega)⟩
    simp only [m_law_great, mb_law_great, runF, mSeq, seqS, mAsg, mBin, mUn, mVar, mC, mRet, mNext, mIfS, mTest, mTruth, mAnd, mOr, mNot, mAndV, mOrV, mNotV, mCl, mCons, mNil, mCall, mDrop, mDrI, mDrNe, mDrIx, mDrLen, mDrSet, mDrPop, drL, isDr0, toS, fName, R.lift, bind_ok, bind_err, bind_bad, eAdd, eSub, eMul, eDiv, eMod, ePow, eNeg, eLt, eLe, eGt, eGe, eEqI, eNeI, eEqS, eEqB, eNeB, eIdxL, eIdxT, eBool, eAbs, Bool.false_eq_true, dList, dTup, if_true, if_false, if_pos, List.map_cons, List.map_nil, List.length_cons, List.length_nil, List.replicate, List.cons_append, List.nil_append, List.getElem?_cons_zero, List.getElem?_cons_succ, List.set_cons_zero, List.set_cons_succ, Nat.reduceAdd, Nat.reduceSub, Nat.reduceLeDiff, Nat.reduceLT, Nat.reduceMul, Int.reduceToNat, Int.reduceEq, Int.reduceAdd, Int.reduceSub, Int.reduceNeg, Bool.not_true, Bool.not_false, decide_true, decide_false, reduceIte, Nat.reduceEqDiff, ite_true, ite_false, e1, e2, hw, c20, c30, c31, c40]
  · by_cases hw2 : w < 6
    · obtain ⟨t, s2, e2, t0, t1, k2⟩ := take_ok A (n := 8) k1 (by omega) (by decide) (by decide)
      obtain ⟨x, ex, hx⟩ := atI_ok (xs := [D.int (10 ^ 40 - 1), .int (1 - 10 ^ 40), .int (10 ^ 30), .int (0 - 10 ^ 30), .int (10 ^ 30 - 1), .int (10 ^ 30 + 1), .int (10 ^ 20), .int 0]) (i := t) t0 (by simpa using t1)
      have hx2 : ∃ r : Int, x = .int r ∧ -(10 ^ 40) < r ∧ r < 10 ^ 40 := by
        simp only [List.mem_cons, List.not_mem_nil, or_false] at hx
        rcases hx with rfl | rfl | rfl | rfl | rfl | rfl | rfl | rfl <;> exact ⟨_, rfl, by decide, by decide⟩
      obtain ⟨r, rfl, r0, r1⟩ := hx2
      refine ⟨r, s2, ?_, r0, r1, k2.mono (by omega)⟩
      simp only [m_law_great, mb_law_great, runF, mSeq, seqS, mAsg, mBin, mUn, mVar, mC, mRet, mNext, mIfS, mTest, mTruth, mAnd, mOr, mNot, mAndV, mOrV, mNotV, mCl, mCons, mNil, mCall, mDrop, mDrI, mDrNe, mDrIx, mDrLen, mDrSet, mDrPop, drL, isDr0, toS, fName, R.lift, bind_ok, bind_err, bind_bad, eAdd, eSub, eMul, eDiv, eMod, ePow, eNeg, eLt, eLe, eGt, eGe, eEqI, eNeI, eEqS, eEqB, eNeB, eIdxL, eIdxT, eBool, eAbs, Bool.false_eq_true, dList, dTup, if_true, if_false, if_pos, List.map_cons, List.map_nil, List.length_cons, List.length_nil, List.replicate, List.cons_append, List.nil_append, List.getElem?_cons_zero, List.getElem?_cons_succ, List.set_cons_zero, List.set_cons_succ, Nat.reduceAdd, Nat.reduceSub, Nat.reduceLeDiff, Nat.reduceLT, Nat.reduceMul, Int.reduceToNat, Int.reduceEq, Int.reduceAdd, Int.reduceSub, Int.reduceNeg, Bool.not_true, Bool.not_false, decide_true, decide_false, reduceIte, Nat.reduceEqDiff, ite_true, ite_false, e1, e2, hw, hw2, c20, c30, c31, c40, ex]
    · obtain ⟨t, s2, e2, t0, t1, k2⟩ := take_ok A (n := 2) k1 (by omega) (by decide) (by decide)
      obtain ⟨u, s3, e3, u0, u1, k3⟩ := take_ok A (n := 3) k2 (by omega) (by decide) (by decide)
      obtain ⟨x, ex, hx⟩ := atI_ok (xs := [D.int (10 ^ 20), .int (10 ^ 31), .int (10 ^ 40)]) (i := u) u0 (by simpa using u1)
      have hx2 : ∃ r : Int, x = .int r ∧ 1 ≤ r ∧ r ≤ 10 ^ 40 := by
        simp only [List.mem_cons, List.not_mem_nil, or_false] at hx
        rcases hx with rfl | rfl | rfl <;> exact ⟨_, rfl, by decide, by decide⟩
      obtain ⟨n, rfl, n0, n1⟩ := hx2
      obtain ⟨g, s4, e4, g0, g1, k4⟩ := take_ok A (n := n) k3 (by omega) n0 (by omega)
      have ht : t = 0 ∨ t = 1 := by omega
      have m1 : CMulG 1 g := mulG (by decide) (by decide) (by omega) (by omega)
      have m2 : CMulG (-1) g := mulG (by decide) (by decide) (by omega) (by omega)
      rcases ht with rfl | rfl
      · refine ⟨1 * g, s4, ?_, by omega, by omega, k4.mono (by omega)⟩
        simp only [m_law_great, mb_law_great, runF, mSeq, seqS, mAsg, mBin, mUn, mVar, mC, mRet, mNext, mIfS, mTest, mTruth, mAnd, mOr, mNot, mAndV, mOrV, mNotV, mCl, mCons, mNil, mCall, mDrop, mDrI, mDrNe, mDrIx, mDrLen, mDrSet, mDrPop, drL, isDr0, toS, fName, R.lift, bind_ok, bind_err, bind_bad, eAdd, eSub, eMul, eDiv, eMod, ePow, eNeg, eLt, eLe, eGt, eGe, eEqI, eNeI, eEqS, eEqB, eNeB, eIdxL, eIdxT, eBool, eAbs, Bool.false_eq_true, dList, dTup, if_true, if_false, if_pos, List.map_cons, List.map_nil, List.length_cons, List.length_nil, List.replicate, List.cons_append, List.nil_append, List.getElem?_cons_zero, List.getElem?_cons_succ, List.set_cons_zero, List.set_cons_succ, Nat.reduceAdd, Nat.reduceSub, Nat.reduceLeDiff, Nat.reduceLT, Nat.reduceMul, Int.reduceToNat, Int.reduceEq, Int.reduceAdd, Int.reduceSub, Int.reduceNeg, Bool.not_true, Bool.not_false, decide_true, decide_false, reduceIte, Nat.reduceEqDiff, ite_true, ite_false, e1, e2, e3, e4, hw, hw2, c20, c30, c31, c40, ex, at0, at1, m1, m2]
      · refine ⟨-1 * g, s4, ?_, by omega, by omega, k4.mono (by omega)⟩
        simp only [m_law_great, mb_law_great, runF, mSeq, seqS, mAsg, mBin, mUn, mVar, mC, mRet, mNext, mIfS, mTest, mTruth, mAnd, mOr, mNot, mAndV, mOrV, mNotV, mCl, mCons, mNil, mCall, mDrop, mDrI, mDrNe, mDrIx, mDrLen, mDrSet, mDrPop, drL, isDr0, toS, fName, R.lift, bind_ok, bind_err, bind_bad, eAdd, eSub, eMul, eDiv, eMod, ePow, eNeg, eLt, eLe, eGt, eGe, eEqI, eNeI, eEqS, eEqB, eNeB, eIdxL, eIdxT, eBool, eAbs, Bool.false_eq_true, dList, dTup, if_true, if_false, if_pos, List.map_cons, List.map_nil, List.length_cons, List.length_nil, List.replicate, List.cons_append, List.nil_append, List.getElem?_cons_zero, List.getElem?_cons_succ, List.set_cons_zero, List.set_cons_succ, Nat.reduceAdd, Nat.reduceSub, Nat.reduceLeDiff, Nat.reduceLT, Nat.reduceMul, Int.reduceToNat, Int.reduceEq, Int.reduceAdd, Int.reduceSub, Int.reduceNeg, Bool.not_true, Bool.not_false, decide_true, decide_false, reduceIte, Nat.reduceEqDiff, ite_true, ite_false, e1, e2, e3, e4, hw, hw2, c20, c30, c31, c40, ex, at0, at1, m1, m2]
theorem same_int (A : Ad) (x : Int) (s : Dr) : m_law_same A [.int x, .int x] s = .ok (.bl true) s := by
  have t1 : dIsT (.int x) [.ty "list", .ty "tuple"] = some (.bl false) := rfl
  have t2 : dIsT (.int x) [.ty "bool", .ty "int"] = some (.bl true) := rfl
  have t3 : dIsI [.int x, .ty "int"] = some (.bl true) := rfl
  have t4 : dIsI [.int x, .ty "bool"] = some (.bl false) := rfl
  simp only [m_law_same, mN_law_same, mb_law_same, mIsT, dTruth, runF, mSeq, seqS, mAsg, mBin, mUn, mVar, mC, mRet, mNext, mIfS, mTest, mTruth, mAnd, mOr, mNot, mAndV, mOrV, mNotV, mCl, mCons, mNil, mCall, mDrop, mDrI, mDrNe, mDrIx, mDrLen, mDrSet, mDrPop, drL, isDr0, toS, fName, R.lift, bind_ok, bind_err, bind_bad, eAdd, eSub, eMul, eDiv, eMod, ePow, eNeg, eLt, eLe, eGt, eGe, eEqI, eNeI, eEqS, eEqB, eNeB, eIdxL, eIdxT, eBool, eAbs, Bool.false_eq_true, dList, dTup, if_true, if_false, if_pos, List.map_cons, List.map_nil, List.length_cons, List.length_nil, List.replicate, List.cons_append, List.nil_append, List.getElem?_cons_zero, List.getElem?_cons_succ, List.set_cons_zero, List.set_cons_succ, Nat.reduceAdd, Nat.reduceSub, Nat.reduceLeDiff, Nat.reduceLT, Nat.reduceMul, Int.reduceToNat, Int.reduceEq, Int.reduceAdd, Int.reduceSub, Int.reduceNeg, Bool.not_true, Bool.not_false, decide_true, decide_false, reduceIte, Nat.reduceEqDiff, ite_true, ite_false, t1, t2, t3, t4]
theorem same_str (A : Ad) (x : Str) (s : Dr) : m_law_same A [.str x, .str x] s = .ok (.bl true) s := by
  have t1 : dIsT (.str x) [.ty "list", .ty "tuple"] = some (.bl false) := rfl
  have t2 : dIsT (.str x) [.ty "bool", .ty "int"] = some (.bl false) := rfl
  have t4 : dIsI [.str x, .ty "bool"] = some (.bl false) := rfl
  have t5 : dIs (.bl false) (.bl false) = some (.bl true) := rfl
  simp only [m_law_same, mN_law_same, mb_law_same, mIsT, dTruth, runF, mSeq, seqS, mAsg, mBin, mUn, mVar, mC, mRet, mNext, mIfS, mTest, mTruth, mAnd, mOr, mNot, mAndV, mOrV, mNotV, mCl, mCons, mNil, mCall, mDrop, mDrI, mDrNe, mDrIx, mDrLen, mDrSet, mDrPop, drL, isDr0, toS, fName, R.lift, bind_ok, bind_err, bind_bad, eAdd, eSub, eMul, eDiv, eMod, ePow, eNeg, eLt, eLe, eGt, eGe, eEqI, eNeI, eEqS, eEqB, eNeB, eIdxL, eIdxT, eBool, eAbs, Bool.false_eq_true, dList, dTup, if_true, if_false, if_pos, List.map_cons, List.map_nil, List.length_cons, List.length_nil, List.replicate, List.cons_append, List.nil_append, List.getElem?_cons_zero, List.getElem?_cons_succ, List.set_cons_zero, List.set_cons_succ, Nat.reduceAdd, Nat.reduceSub, Nat.reduceLeDiff, Nat.reduceLT, Nat.reduceMul, Int.reduceToNat, Int.reduceEq, Int.reduceAdd, Int.reduceSub, Int.reduceNeg, Bool.not_true, Bool.not_false, decide_true, decide_false, reduceIte, Nat.reduceEqDiff, ite_true, ite_false, t1, t2, t4, t5]
theorem strLen (m : Nat) : (Str.ofString (toString (m : Int))).length ≤ 60 ↔ m < 10 ^ 60 := by
  have e1 : (Str.ofString (toString (m : Int))).length = (Nat.toDigits 10 m).length := by
    have := congrArg List.length (PySem.W.KIN.signs_num m)
    rw [List.length_map] at this
    rw [← this]
    rfl
  have e2 := Nat.length_repr_le_iff (n := m) (k := 60) (by decide)
  rw [← String.length_toList, Nat.toList_repr] at e2
  rw [e1]
  exact e2
end S

namespace S
open PySem PySem.Spec PyProof.Rows L2 RZ Mr
/-! ### loops and comprehensions, plainly -/
theorem forL_ok {O : Wo} {f : D → Ev → Option Ev} {mb : MS O} (N : Nat) (I : Nat → Ev → O.S → Prop) (Pd : D → Prop) (st : ∀ i d ρ s, i < N → Pd d → I i ρ s → ∃ ρ1 ρ2 s2, f d ρ = some ρ1 ∧ mb ρ1 s = .nx ρ2 s2 ∧ I (i + 1) ρ2 s2) :
    ∀ (ds : List D) (i : Nat) (ρ : Ev) (s : O.S), i + ds.length ≤ N → (∀ d ∈ ds, Pd d) → I i ρ s → ∃ ρ' s', forL O f mb ds ρ s = .nx ρ' s' ∧ I (i + ds.length) ρ' s'
  | [], i, ρ, s, _, _, h => ⟨ρ, s, by simp only [forL], h⟩
  | d :: ds, i, ρ, s, hl, hp, h => by
    rw [List.length_cons] at hl
    obtain ⟨ρ1, ρ2, s2, e1, e2, h2⟩ := st i d ρ s (by omega) (hp d List.mem_cons_self) h
    obtain ⟨ρ', s', e3, h3⟩ := forL_ok N I Pd st ds (i + 1) ρ2 s2 (by omega) (fun x hx => hp x (List.mem_cons_of_mem _ hx)) h2
    refine ⟨ρ', s', ?_, ?_⟩
    · simp only [forL, e1, e2, e3]
    · have : i + (d :: ds).length = i + 1 + ds.length := by simp; omega
      rw [this]
      exact h3
/-- a loop that folds a state and leaves the source alone -/
theorem forL_fold {O : Wo} {f : D → Ev → Option Ev} {mb : MS O} {σ : Type} {s : O.S} (enc : σ → Ev) (step : σ → D → σ) (inv : σ → Prop) : ∀ (ds : List D) (st : σ),
    (∀ st, ∀ d ∈ ds, inv st → ∃ ρ1, f d (enc st) = some ρ1 ∧ mb ρ1 s = .nx (enc (step st d)) s ∧ inv (step st d)) → inv st → forL O f mb ds (enc st) s = .nx (enc (ds.foldl step st)) s ∧ inv (ds.foldl step st)
  | [], st, _, hi => ⟨rfl, hi⟩
  | d :: ds, st, h, hi => by
    obtain ⟨ρ1, e1, e2, h2⟩ := h st d List.mem_cons_self hi
    obtain ⟨e3, h3⟩ := forL_fold enc step inv ds (step st d) (fun st' x hx hi' => h st' x (List.mem_cons_of_mem _ hx) hi') h2
    refine ⟨?_, h3⟩
    simp only [forL, e1, e2, List.foldl_cons]
    exact e3
/-- each item gives one, the source is left alone -/
theorem lcL_map {O : Wo} {f : D → Ev → Option Ev} {mt : MT O} {me : ME O} {ρ : Ev} {s : O.S} (g : D → D) : ∀ (ds acc : List D), (∀ d ∈ ds, ∃ ρ1, f d ρ = some ρ1 ∧ mt ρ1 s = .ok true s ∧ me ρ1 s = .ok (g d) s) → acc.length + ds.length ≤ 100000 →
    lcL O f mt me ρ ds acc s = .ok (acc ++ ds.map g) s
  | [], acc, _, _ => by simp [lcL]
  | d :: ds, acc, h, hl => by
    rw [List.length_cons] at hl
    obtain ⟨ρ1, e1, e2, e3⟩ := h d List.mem_cons_self
    have e4 := lcL_map (O := O) (f := f) (mt := mt) (me := me) (ρ := ρ) (s := s) g ds (acc ++ [g d]) (fun x hx => h x (List.mem_cons_of_mem _ hx)) (by simp; omega)
    simp only [lcL, e1, e2, e3]
    rw [if_pos (by omega), e4]
    simp
/-- some items give one -/
theorem lcL_filter {O : Wo} {f : D → Ev → Option Ev} {mt : MT O} {me : ME O} {ρ : Ev} {s : O.S} (p : D → Bool) (g : D → D) : ∀ (ds acc : List D), (∀ d ∈ ds, ∃ ρ1, f d ρ = some ρ1 ∧ mt ρ1 s = .ok (p d) s ∧ (p d = true → me ρ1 s = .ok (g d) s)) → acc.length + ds.length ≤ 100000 →
    lcL O f mt me ρ ds acc s = .ok (acc ++ (ds.filter p).map g) s
  | [], acc, _, _ => by simp [lcL]
  | d :: ds, acc, h, hl => by
    rw [List.length_cons] at hl
    obtain ⟨ρ1, e1, e2, e3⟩ := h d List.mem_cons_self
    cases hp : p d with
    | true =>
      have e4 := lcL_filter (O := O) (f := f) (mt := mt) (me := me) (ρ := ρ) (s := s) p g ds (acc ++ [g d]) (fun x hx => h x (List.mem_cons_of_mem _ hx)) (by simp; omega)
      rw [hp] at e2
      simp only [lcL, e1, e2, e3 hp]
      rw [if_pos (by omega), e4, List.filter_cons_of_pos hp]
      simp
    | false =>
      have e4 := lcL_filter (O := O) (f := f) (mt := mt) (me := me) (ρ := ρ) (s := s) p g ds acc (fun x hx => h x (List.mem_cons_of_mem _ hx)) (by omega)
      rw [hp] at e2
      simp only [lcL, e1, e2]
      rw [e4, List.filter_cons_of_neg (by simp [hp])]
/-- draws in a comprehension: a bound on the source, a fact of each item -/
theorem lcL_draw {A : Ad} {f : D → Ev → Option Ev} {mt : MT (O A)} {me : ME (O A)} {ρ : Ev} (P : D → Prop) (c : Int) : ∀ (ds acc : List D) (b : Int) (s : Dr), (∀ (d : D) (b' : Int) (s' : Dr), d ∈ ds → Ok b' s' → b' + c ≤ b + c * ds.length → ∃ ρ1 y s2, f d ρ = some ρ1 ∧ mt ρ1 s' = .ok true s' ∧ me ρ1 s' = .ok y s2 ∧ P y ∧ Ok (b' + c) s2) →
    acc.length + ds.length ≤ 100000 → 0 ≤ c → Ok b s → (∀ d ∈ acc, P d) → ∃ ys s', lcL (O A) f mt me ρ ds acc s = .ok ys s' ∧ ys.length = acc.length + ds.length ∧ (∀ d ∈ ys, P d) ∧ Ok (b + c * ds.length) s'
  | [], acc, b, s, _, _, _, ok, ha => ⟨acc, s, by simp [lcL], by simp, ha, ok.mono (by simp)⟩
  | d :: ds, acc, b, s, h, hl, hc, ok, ha => by
    rw [List.length_cons] at hl
    have hn : (0 : Int) ≤ c * (ds.length : Int) := Int.mul_nonneg hc (by omega)
    have hm : c * ((d :: ds).length : Int) = c * (ds.length : Int) + c := by
      rw [List.length_cons, Int.natCast_add, Int.mul_add]; simp
    obtain ⟨ρ1, y, s2, e1, e2, e3, py, ok2⟩ := h d b s List.mem_cons_self ok (by rw [hm]; omega)
    obtain ⟨ys, s', e4, l4, p4, ok4⟩ := lcL_draw (A := A) (f := f) (mt := mt) (me := me) (ρ := ρ) P c ds (acc ++ [y]) (b + c) s2 (fun x b' s' hx k hb => h x b' s' (List.mem_cons_of_mem _ hx) k (by rw [hm]; omega)) (by simp; omega) hc ok2
      (fun x hx => by rcases List.mem_append.mp hx with q | q; exact ha x q; rw [List.mem_singleton] at q; rw [q]; exact py)
    refine ⟨ys, s', ?_, ?_, p4, ok4.mono (by rw [hm]; omega)⟩
    · simp only [lcL, e1, e2, e3]
      rw [if_pos (by omega), e4]
    · rw [l4]; simp; omega
/-! ### _law_same of a thing with itself -/
def plD : Nat → D → Bool
  | _, .non => true
  | _, .bl _ => true
  | _, .int _ => true
  | _, .str _ => true
  | n + 1, .lst xs => decide (xs.length ≤ 100000) && xs.all (plD n)
  | n + 1, .tup xs => decide (xs.length ≤ 100000) && xs.all (plD n)
  | _, _ => false
theorem toBools_true (n : Nat) : toBools (List.replicate n (.bl true)) = some (List.replicate n true) := by
  induction n with
  | zero => rfl
  | succ n ih => simp only [List.replicate_succ, toBools, ih]; rfl
theorem dAll_true (xs : List D) (h : ∀ d ∈ xs, d = .bl true) : dAll [.lst xs] = some (.bl true) := by
  have e : xs = List.replicate xs.length (.bl true) := List.eq_replicate_iff.mpr ⟨rfl, h⟩
  rw [e]
  simp only [dAll, toBools_true, Option.map_some]
  simp
theorem zipD_self (xs : List D) : zipD xs xs = xs.map fun d => .tup [d, d] := by
  unfold zipD
  induction xs with
  | nil => rfl
  | cons x xs ih => simp [List.zip_cons_cons] at ih ⊢; exact ih
theorem same_seq (A : Ad) (n : Nat) (xs : List D) (d : D) (hd : d = .lst xs ∨ d = .tup xs) (hl : xs.length ≤ 100000) (ih : ∀ x ∈ xs, ∀ s, mN_law_same A n [x, x] s = .ok (.bl true) s) (s : Dr) : mN_law_same A (n + 1) [d, d] s = .ok (.bl true) s := by
  have lc : ∀ r2 r3 : Sl, lc_law_same_0 A (mN_law_same A n) [.sh d, .sh d, r2, r3] s = .ok (xs.map fun _ => .bl true) s := by
    intro r2 r3
    have z1 : dZip [d, d] = some (xs.map fun d => .tup [d, d]) := by rcases hd with rfl | rfl <;> simp only [dZip, zipD_self]
    have w1 : wipeE [.sh d, .sh d, r2, r3] [2, 3] = [.sh d, .sh d, .no, .no] := rfl
    simp only [lc_law_same_0, mLc, mItA, runF, mSeq, seqS, mAsg, mBin, mUn, mVar, mC, mRet, mNext, mIfS, mTest, mTruth, mAnd, mOr, mNot, mAndV, mOrV, mNotV, mCl, mCons, mNil, mCall, mDrop, mDrI, mDrNe, mDrIx, mDrLen, mDrSet, mDrPop, drL, isDr0, toS, fName, R.lift, bind_ok, bind_err, bind_bad, eAdd, eSub, eMul, eDiv, eMod, ePow, eNeg, eLt, eLe, eGt, eGe, eEqI, eNeI, eEqS, eEqB, eNeB, eIdxL, eIdxT, eBool, eAbs, Bool.false_eq_true, dList, dTup, if_true, if_false, if_pos, List.map_cons, List.map_nil, List.length_cons, List.length_nil, List.replicate, List.cons_append, List.nil_append, List.getElem?_cons_zero, List.getElem?_cons_succ, List.set_cons_zero, List.set_cons_succ, Nat.reduceAdd, Nat.reduceSub, Nat.reduceLeDiff, Nat.reduceLT, Nat.reduceMul, Int.reduceToNat, Int.reduceEq, Int.reduceAdd, Int.reduceSub, Int.reduceNeg, Bool.not_true, Bool.not_false, decide_true, decide_false, reduceIte, Nat.reduceEqDiff, ite_true, ite_false, mIf, mLst, mSlice, mPart, mNoPart, mItS, mItL, mItT, asSeq, asList, asTup, mFor, mPar, mPass, mBrk, mCnt, mRetN, z1, w1]
    refine (lcL_map (O := O A) (fun _ => .bl true) (xs.map fun d => D.tup [d, d]) [] ?_ (by simpa using hl)).trans ?_
    · intro y hy
      rw [List.mem_map] at hy
      obtain ⟨x, hx, rfl⟩ := hy
      refine ⟨_, rfl, rfl, ?_⟩
      have f2 : ∀ (a b : D) (ρ : Ev), fTup 2 (fCons (fName 2) (fCons (fName 3) fNil)) (.tup [a, b]) ρ = some ((ρ.set 2 (.sh a)).set 3 (.sh b)) := fun _ _ _ => rfl
      simp only [runF, mSeq, seqS, mAsg, mBin, mUn, mVar, mC, mRet, mNext, mIfS, mTest, mTruth, mAnd, mOr, mNot, mAndV, mOrV, mNotV, mCl, mCons, mNil, mCall, mDrop, mDrI, mDrNe, mDrIx, mDrLen, mDrSet, mDrPop, drL, isDr0, toS, fName, R.lift, bind_ok, bind_err, bind_bad, eAdd, eSub, eMul, eDiv, eMod, ePow, eNeg, eLt, eLe, eGt, eGe, eEqI, eNeI, eEqS, eEqB, eNeB, eIdxL, eIdxT, eBool, eAbs, Bool.false_eq_true, dList, dTup, if_true, if_false, if_pos, List.map_cons, List.map_nil, List.length_cons, List.length_nil, List.replicate, List.cons_append, List.nil_append, List.getElem?_cons_zero, List.getElem?_cons_succ, List.set_cons_zero, List.set_cons_succ, Nat.reduceAdd, Nat.reduceSub, Nat.reduceLeDiff, Nat.reduceLT, Nat.reduceMul, Int.reduceToNat, Int.reduceEq, Int.reduceAdd, Int.reduceSub, Int.reduceNeg, Bool.not_true, Bool.not_false, decide_true, decide_false, reduceIte, Nat.reduceEqDiff, ite_true, ite_false, mIf, mLst, mSlice, mPart, mNoPart, mItS, mItL, mItT, asSeq, asList, asTup, mFor, mPar, mPass, mBrk, mCnt, mRetN, ih x hx s]
    · simp
  have al : dAll [.lst (xs.map fun _ => D.bl true)] = some (.bl true) := dAll_true _ (fun d h => by simp at h; exact h.2.symm)
  have len : dLen [d] = some (.int xs.length) := by rcases hd with rfl | rfl <;> rfl
  have t1 : dIsT d [.ty "list", .ty "tuple"] = some (.bl true) := by rcases hd with rfl | rfl <;> rfl
  have t2 : ∃ b, dIsI [d, .ty "list"] = some (.bl b) := by rcases hd with rfl | rfl <;> exact ⟨_, rfl⟩
  have t3 : ∃ b, dIsI [d, .ty "tuple"] = some (.bl b) := by rcases hd with rfl | rfl <;> exact ⟨_, rfl⟩
  obtain ⟨b2, t2⟩ := t2
  obtain ⟨b3, t3⟩ := t3
  rw [mN_law_same]
  simp only [mb_law_same, mIsT, dTruth, mLst, runF, mSeq, seqS, mAsg, mBin, mUn, mVar, mC, mRet, mNext, mIfS, mTest, mTruth, mAnd, mOr, mNot, mAndV, mOrV, mNotV, mCl, mCons, mNil, mCall, mDrop, mDrI, mDrNe, mDrIx, mDrLen, mDrSet, mDrPop, drL, isDr0, toS, fName, R.lift, bind_ok, bind_err, bind_bad, eAdd, eSub, eMul, eDiv, eMod, ePow, eNeg, eLt, eLe, eGt, eGe, eEqI, eNeI, eEqS, eEqB, eNeB, eIdxL, eIdxT, eBool, eAbs, Bool.false_eq_true, dList, dTup, if_true, if_false, if_pos, List.map_cons, List.map_nil, List.length_cons, List.length_nil, List.replicate, List.cons_append, List.nil_append, List.getElem?_cons_zero, List.getElem?_cons_succ, List.set_cons_zero, List.set_cons_succ, Nat.reduceAdd, Nat.reduceSub, Nat.reduceLeDiff, Nat.reduceLT, Nat.reduceMul, Int.reduceToNat, Int.reduceEq, Int.reduceAdd, Int.reduceSub, Int.reduceNeg, Bool.not_true, Bool.not_false, decide_true, decide_false, reduceIte, Nat.reduceEqDiff, ite_true, ite_false, mIf, mLst, mSlice, mPart, mNoPart, mItS, mItL, mItT, asSeq, asList, asTup, mFor, mPar, mPass, mBrk, mCnt, mRetN, t1, t2, t3, len, lc, al]
theorem same_refl (A : Ad) : ∀ (n : Nat) (d : D), plD n d = true → ∀ (m : Nat), n < m → ∀ s, mN_law_same A m [d, d] s = .ok (.bl true) s
  | n, d, h, 0, hm, s => by omega
  | n, d, h, m + 1, hm, s => by
    have t5 : dIs (.bl false) (.bl false) = some (.bl true) := rfl
    cases d with
    | non =>
      have t1 : dIsT .non [.ty "list", .ty "tuple"] = some (.bl false) := rfl
      have t2 : dIsT .non [.ty "bool", .ty "int"] = some (.bl false) := rfl
      have t4 : dIsI [.non, .ty "bool"] = some (.bl false) := rfl
      have t6 : dEq .non .non = some (.bl true) := rfl
      rw [mN_law_same]
      simp only [mb_law_same, mIsT, dTruth, runF, mSeq, seqS, mAsg, mBin, mUn, mVar, mC, mRet, mNext, mIfS, mTest, mTruth, mAnd, mOr, mNot, mAndV, mOrV, mNotV, mCl, mCons, mNil, mCall, mDrop, mDrI, mDrNe, mDrIx, mDrLen, mDrSet, mDrPop, drL, isDr0, toS, fName, R.lift, bind_ok, bind_err, bind_bad, eAdd, eSub, eMul, eDiv, eMod, ePow, eNeg, eLt, eLe, eGt, eGe, eEqI, eNeI, eEqS, eEqB, eNeB, eIdxL, eIdxT, eBool, eAbs, Bool.false_eq_true, dList, dTup, if_true, if_false, if_pos, List.map_cons, List.map_nil, List.length_cons, List.length_nil, List.replicate, List.cons_append, List.nil_append, List.getElem?_cons_zero, List.getElem?_cons_succ, List.set_cons_zero, List.set_cons_succ, Nat.reduceAdd, Nat.reduceSub, Nat.reduceLeDiff, Nat.reduceLT, Nat.reduceMul, Int.reduceToNat, Int.reduceEq, Int.reduceAdd, Int.reduceSub, Int.reduceNeg, Bool.not_true, Bool.not_false, decide_true, decide_false, reduceIte, Nat.reduceEqDiff, ite_true, ite_false, mIf, mLst, mSlice, mPart, mNoPart, mItS, mItL, mItT, asSeq, asList, asTup, mFor, mPar, mPass, mBrk, mCnt, mRetN, t1, t2, t4, t5, t6]
    | bl b =>
      have t1 : dIsT (.bl b) [.ty "list", .ty "tuple"] = some (.bl false) := rfl
      have t2 : dIsT (.bl b) [.ty "bool", .ty "int"] = some (.bl true) := rfl
      have t3 : dIsI [.bl b, .ty "int"] = some (.bl true) := rfl
      have t4 : dIsI [.bl b, .ty "bool"] = some (.bl true) := rfl
      rw [mN_law_same]
      simp only [mb_law_same, mIsT, dTruth, runF, mSeq, seqS, mAsg, mBin, mUn, mVar, mC, mRet, mNext, mIfS, mTest, mTruth, mAnd, mOr, mNot, mAndV, mOrV, mNotV, mCl, mCons, mNil, mCall, mDrop, mDrI, mDrNe, mDrIx, mDrLen, mDrSet, mDrPop, drL, isDr0, toS, fName, R.lift, bind_ok, bind_err, bind_bad, eAdd, eSub, eMul, eDiv, eMod, ePow, eNeg, eLt, eLe, eGt, eGe, eEqI, eNeI, eEqS, eEqB, eNeB, eIdxL, eIdxT, eBool, eAbs, Bool.false_eq_true, dList, dTup, if_true, if_false, if_pos, List.map_cons, List.map_nil, List.length_cons, List.length_nil, List.replicate, List.cons_append, List.nil_append, List.getElem?_cons_zero, List.getElem?_cons_succ, List.set_cons_zero, List.set_cons_succ, Nat.reduceAdd, Nat.reduceSub, Nat.reduceLeDiff, Nat.reduceLT, Nat.reduceMul, Int.reduceToNat, Int.reduceEq, Int.reduceAdd, Int.reduceSub, Int.reduceNeg, Bool.not_true, Bool.not_false, decide_true, decide_false, reduceIte, Nat.reduceEqDiff, ite_true, ite_false, mIf, mLst, mSlice, mPart, mNoPart, mItS, mItL, mItT, asSeq, asList, asTup, mFor, mPar, mPass, mBrk, mCnt, mRetN, t1, t2, t3, t4]
    | int i =>
      have t1 : dIsT (.int i) [.ty "list", .ty "tuple"] = some (.bl false) := rfl
      have t2 : dIsT (.int i) [.ty "bool", .ty "int"] = some (.bl true) := rfl
      have t3 : dIsI [.int i, .ty "int"] = some (.bl true) := rfl
      have t4 : dIsI [.int i, .ty "bool"] = some (.bl false) := rfl
      rw [mN_law_same]
      simp only [mb_law_same, mIsT, dTruth, runF, mSeq, seqS, mAsg, mBin, mUn, mVar, mC, mRet, mNext, mIfS, mTest, mTruth, mAnd, mOr, mNot, mAndV, mOrV, mNotV, mCl, mCons, mNil, mCall, mDrop, mDrI, mDrNe, mDrIx, mDrLen, mDrSet, mDrPop, drL, isDr0, toS, fName, R.lift, bind_ok, bind_err, bind_bad, eAdd, eSub, eMul, eDiv, eMod, ePow, eNeg, eLt, eLe, eGt, eGe, eEqI, eNeI, eEqS, eEqB, eNeB, eIdxL, eIdxT, eBool, eAbs, Bool.false_eq_true, dList, dTup, if_true, if_false, if_pos, List.map_cons, List.map_nil, List.length_cons, List.length_nil, List.replicate, List.cons_append, List.nil_append, List.getElem?_cons_zero, List.getElem?_cons_succ, List.set_cons_zero, List.set_cons_succ, Nat.reduceAdd, Nat.reduceSub, Nat.reduceLeDiff, Nat.reduceLT, Nat.reduceMul, Int.reduceToNat, Int.reduceEq, Int.reduceAdd, Int.reduceSub, Int.reduceNeg, Bool.not_true, Bool.not_false, decide_true, decide_false, reduceIte, Nat.reduceEqDiff, ite_true, ite_false, mIf, mLst, mSlice, mPart, mNoPart, mItS, mItL, mItT, asSeq, asList, asTup, mFor, mPar, mPass, mBrk, mCnt, mRetN, t1, t2, t3, t4]
    | str x =>
      have t1 : dIsT (.str x) [.ty "list", .ty "tuple"] = some (.bl false) := rfl
      have t2 : dIsT (.str x) [.ty "bool", .ty "int"] = some (.bl false) := rfl
      have t4 : dIsI [.str x, .ty "bool"] = some (.bl false) := rfl
      rw [mN_law_same]
      simp only [mb_law_same, mIsT, dTruth, runF, mSeq, seqS, mAsg, mBin, mUn, mVar, mC, mRet, mNext, mIfS, mTest, mTruth, mAnd, mOr, mNot, mAndV, mOrV, mNotV, mCl, mCons, mNil, mCall, mDrop, mDrI, mDrNe, mDrIx, mDrLen, mDrSet, mDrPop, drL, isDr0, toS, fName, R.lift, bind_ok, bind_err, bind_bad, eAdd, eSub, eMul, eDiv, eMod, ePow, eNeg, eLt, eLe, eGt, eGe, eEqI, eNeI, eEqS, eEqB, eNeB, eIdxL, eIdxT, eBool, eAbs, Bool.false_eq_true, dList, dTup, if_true, if_false, if_pos, List.map_cons, List.map_nil, List.length_cons, List.length_nil, List.replicate, List.cons_append, List.nil_append, List.getElem?_cons_zero, List.getElem?_cons_succ, List.set_cons_zero, List.set_cons_succ, Nat.reduceAdd, Nat.reduceSub, Nat.reduceLeDiff, Nat.reduceLT, Nat.reduceMul, Int.reduceToNat, Int.reduceEq, Int.reduceAdd, Int.reduceSub, Int.reduceNeg, Bool.not_true, Bool.not_false, decide_true, decide_false, reduceIte, Nat.reduceEqDiff, ite_true, ite_false, mIf, mLst, mSlice, mPart, mNoPart, mItS, mItL, mItT, asSeq, asList, asTup, mFor, mPar, mPass, mBrk, mCnt, mRetN, t1, t2, t4, t5]
    | lst xs =>
      cases n with
      | zero => cases h
      | succ n =>
        simp only [plD, Bool.and_eq_true, decide_eq_true_eq, List.all_eq_true] at h
        exact same_seq A m xs _ (.inl rfl) h.1 (fun x hx s => same_refl A n x (h.2 x hx) m (by omega) s) s
    | tup xs =>
      cases n with
      | zero => cases h
      | succ n =>
        simp only [plD, Bool.and_eq_true, decide_eq_true_eq, List.all_eq_true] at h
        exact same_seq A m xs _ (.inr rfl) h.1 (fun x hx s => same_refl A n x (h.2 x hx) m (by omega) s) s
    | ref a => cases h2 : n <;> rw [h2] at h <;> cases h
    | ty a => cases h2 : n <;> rw [h2] at h <;> cases h
    | ins C a => cases h2 : n <;> rw [h2] at h <;> cases h
    | dct a => cases h2 : n <;> rw [h2] at h <;> cases h
theorem same_ok (A : Ad) {d : D} (h : plD 3 d = true) (s : Dr) : m_law_same A [d, d] s = .ok (.bl true) s := same_refl A 3 d h 4 (by decide) s
/-! ### a statement that runs through -/
def Nx {O : Wo} (P : Ev → O.S → Prop) (r : RS O.S) : Prop := ∃ ρ s, r = .nx ρ s ∧ P ρ s
theorem Nx.mono {O : Wo} {P Q : Ev → O.S → Prop} {r : RS O.S} (h : Nx P r) (f : ∀ ρ s, P ρ s → Q ρ s) : Nx Q r := by
  obtain ⟨ρ, s, e, p⟩ := h
  exact ⟨ρ, s, e, f ρ s p⟩
theorem nx_seq {O : Wo} {a b : MS O} {ρ : Ev} {s : O.S} {Q : Ev → O.S → Prop} (P : Ev → O.S → Prop) (h1 : Nx P (a ρ s)) (h2 : ∀ ρ' s', P ρ' s' → Nx Q (b ρ' s')) : Nx Q (mSeq O a b ρ s) := by
  obtain ⟨ρ', s', e, p⟩ := h1
  unfold mSeq seqS
  rw [e]
  exact h2 ρ' s' p
theorem nx_if {O : Wo} {c : MT O} {a b : MS O} {ρ : Ev} {s s1 : O.S} {k : Bool} {Q : Ev → O.S → Prop} (hc : c ρ s = .ok k s1) (h1 : k = true → Nx Q (a ρ s1)) (h2 : k = false → Nx Q (b ρ s1)) : Nx Q (mIfS O c a b ρ s) := by
  unfold mIfS
  rw [hc]
  simp only [toS]
  cases k with
  | true => rw [if_pos rfl]; exact h1 rfl
  | false => rw [if_neg (by decide)]; exact h2 rfl
theorem nx_next {O : Wo} {ρ : Ev} {s : O.S} {Q : Ev → O.S → Prop} (h : Q ρ s) : Nx Q (mNext O ρ s) := ⟨ρ, s, rfl, h⟩
theorem nx_of {O : Wo} {r : RS O.S} {ρ : Ev} {s : O.S} {Q : Ev → O.S → Prop} (e : r = .nx ρ s) (h : Q ρ s) : Nx Q r := ⟨ρ, s, e, h⟩
/-- a loop over n items, each of which runs through -/
theorem forL_nx {O : Wo} {f : D → Ev → Option Ev} {mb : MS O} (N : Nat) (I : Nat → Ev → O.S → Prop) (st : ∀ i d ρ s, i < N → I i ρ s → ∃ ρ1, f d ρ = some ρ1 ∧ Nx (I (i + 1)) (mb ρ1 s)) (ds : List D) (hl : ds.length = N) (ρ : Ev) (s : O.S) (h : I 0 ρ s) : Nx (I N) (forL O f mb ds ρ s) := by
  obtain ⟨ρ', s', e, h'⟩ := forL_ok (O := O) (f := f) (mb := mb) N I (fun _ => True) (fun i d ρ s hi _ q => by
    obtain ⟨ρ1, e1, ρ2, s2, e2, q2⟩ := st i d ρ s hi q
    exact ⟨ρ1, ρ2, s2, e1, e2, q2⟩) ds 0 ρ s (by omega) (fun _ _ => trivial) h
  exact ⟨ρ', s', e, by rw [Nat.zero_add, hl] at h'; exact h'⟩
/-! ### ints -/
theorem ints_of {Q : Int → Prop} : ∀ {ys : List D}, (∀ d ∈ ys, ∃ i : Int, d = .int i ∧ Q i) → ∃ xs : List Int, ys = xs.map D.int ∧ ∀ x ∈ xs, Q x
  | [], _ => ⟨[], rfl, fun x hx => absurd hx List.not_mem_nil⟩
  | y :: ys, h => by
    obtain ⟨i, rfl, hi⟩ := h y List.mem_cons_self
    obtain ⟨xs, rfl, hx⟩ := ints_of (ys := ys) fun d hd => h d (List.mem_cons_of_mem _ hd)
    exact ⟨i :: xs, rfl, fun x q => by rcases List.mem_cons.mp q with rfl | q; exact hi; exact hx x q⟩
theorem cut_tail (x : D) (xs : List D) : cutD (x :: xs) (some 1) none = xs := by
  have h1 : HT.sIx (x :: xs).length 0 (some 1) = 1 := by
    have := HT.sIx_nat (x :: xs).length 0 1
    rw [show ((1 : Nat) : Int) = 1 from rfl] at this
    rw [this, List.length_cons]
    omega
  unfold Mr.cutD
  rw [h1, HT.sIx_none]
  simp
theorem cut_take (xs : List D) (n : Nat) : cutD xs none (some (n : Int)) = xs.take n := by
  unfold Mr.cutD
  rw [HT.sIx_none, HT.sIx_nat]
  simp only [List.drop_zero, Nat.sub_zero]
  rw [List.take_eq_take_iff]
  omega
/-! ### equality of data without truths -/
def pqD : Nat → D → Bool
  | _, .non => true
  | _, .int _ => true
  | _, .str x => PyData.strOk x
  | n + 1, .lst xs => xs.all (pqD n)
  | n + 1, .tup xs => xs.all (pqD n)
  | _, _ => false
theorem toPs_pq {n : Nat} (ih : ∀ d, pqD n d = true → ∃ p, toP d = some p ∧ p.canLay0 = true ∧ p.depth ≤ n) : ∀ xs : List D, xs.all (pqD n) = true → ∃ ps, toPs xs = some ps ∧ PyData.canLayAll0 ps = true ∧ PyData.depthAll ps ≤ n
  | [], _ => ⟨[], by simp only [toPs], by simp only [PyData.canLayAll0], by simp [PyData.depthAll]⟩
  | x :: xs, h => by
    rw [List.all_cons, Bool.and_eq_true] at h
    obtain ⟨p, e1, c1, d1⟩ := ih x h.1
    obtain ⟨ps, e2, c2, d2⟩ := toPs_pq ih xs h.2
    refine ⟨p :: ps, by simp only [toPs, e1, e2], by simp only [PyData.canLayAll0, c1, c2, Bool.and_self], ?_⟩
    simp only [PyData.depthAll]
    omega
theorem toP_pq : ∀ (n : Nat) (d : D), pqD n d = true → ∃ p, toP d = some p ∧ p.canLay0 = true ∧ p.depth ≤ n
  | n, .non, _ => ⟨.none, by simp only [toP], by simp only [PyData.canLay0], by simp [PyData.depth]⟩
  | n, .int i, _ => ⟨.int i, by simp only [toP], by simp only [PyData.canLay0], by simp [PyData.depth]⟩
  | n, .str x, h => ⟨.str x, by simp only [toP], by simp only [PyData.canLay0]; cases n <;> simpa only [pqD] using h, by simp [PyData.depth]⟩
  | n + 1, .lst xs, h => by
    simp only [pqD] at h
    obtain ⟨ps, e, c, d⟩ := toPs_pq (toP_pq n) xs h
    exact ⟨.list ps, by simp only [toP, e, Option.map_some], by simp only [PyData.canLay0, c], by simp only [PyData.depth]; omega⟩
  | n + 1, .tup xs, h => by
    simp only [pqD] at h
    obtain ⟨ps, e, c, d⟩ := toPs_pq (toP_pq n) xs h
    exact ⟨.tuple ps, by simp only [toP, e, Option.map_some], by simp only [PyData.canLay0, c], by simp only [PyData.depth]; omega⟩
  | 0, .lst xs, h => by simp [pqD] at h
  | 0, .tup xs, h => by simp [pqD] at h
  | n, .bl b, h => by cases n <;> simp [pqD] at h
  | n, .ref b, h => by cases n <;> simp [pqD] at h
  | n, .ty b, h => by cases n <;> simp [pqD] at h
  | n, .ins b c, h => by cases n <;> simp [pqD] at h
  | n, .dct b, h => by cases n <;> simp [pqD] at h
theorem eqvAll_pq {n m : Nat} (ih : ∀ a b p q, pqD n a = true → pqD m b = true → toP a = some p → toP b = some q → (PyData.eqv p q = true ↔ a = b)) :
    ∀ (xs ys : List D) (ps qs : List PyData), xs.all (pqD n) = true → ys.all (pqD m) = true → toPs xs = some ps → toPs ys = some qs → (PyData.eqvAll ps qs = true ↔ xs = ys)
  | [], [], ps, qs, _, _, e1, e2 => by simp only [toPs, Option.some.injEq] at e1 e2; subst e1 e2; simp [PyData.eqvAll]
  | [], y :: ys, ps, qs, h1, h2, e1, e2 => by
    rw [List.all_cons, Bool.and_eq_true] at h2
    obtain ⟨p, f1, _, _⟩ := toP_pq m y h2.1
    obtain ⟨pp, f2, _, _⟩ := toPs_pq (toP_pq m) ys h2.2
    simp only [toPs, f1, f2, Option.some.injEq] at e1 e2
    subst e1 e2
    simp [PyData.eqvAll]
  | x :: xs, [], ps, qs, h1, h2, e1, e2 => by
    rw [List.all_cons, Bool.and_eq_true] at h1
    obtain ⟨p, f1, _, _⟩ := toP_pq n x h1.1
    obtain ⟨pp, f2, _, _⟩ := toPs_pq (toP_pq n) xs h1.2
    simp only [toPs, f1, f2, Option.some.injEq] at e1 e2
    subst e1 e2
    simp [PyData.eqvAll]
  | x :: xs, y :: ys, ps, qs, h1, h2, e1, e2 => by
    rw [List.all_cons, Bool.and_eq_true] at h1 h2
    obtain ⟨p, f1, _, _⟩ := toP_pq n x h1.1
    obtain ⟨pp, f2, _, _⟩ := toPs_pq (toP_pq n) xs h1.2
    obtain ⟨q, g1, _, _⟩ := toP_pq m y h2.1
    obtain ⟨qq, g2, _, _⟩ := toPs_pq (toP_pq m) ys h2.2
    simp only [toPs, f1, f2, g1, g2, Option.some.injEq] at e1 e2
    subst e1 e2
    have i1 := ih x y p q h1.1 h2.1 f1 g1
    have i2 := eqvAll_pq ih xs ys pp qq h1.2 h2.2 f2 g2
    simp only [PyData.eqvAll, Bool.and_eq_true, i1, i2, List.cons.injEq]
theorem eqv_pq : ∀ (n m : Nat) (a b : D) (p q : PyData), pqD n a = true → pqD m b = true → toP a = some p → toP b = some q → (PyData.eqv p q = true ↔ a = b) := by
  intro n
  induction n with
  | zero =>
    intro m a b p q h1 h2 e1 e2
    cases a <;> first | (simp [pqD] at h1; done) | skip
    all_goals (cases b <;> first | (cases m <;> simp [pqD] at h2; done) | skip)
    all_goals first | (simp only [toP, Option.some.injEq] at e1 e2; subst e1 e2; simp [PyData.eqv]; done) | skip
    all_goals (simp only [toP, Option.some.injEq, Option.map_eq_some_iff] at e1 e2; subst e1; obtain ⟨ps, _, rfl⟩ := e2; simp [PyData.eqv])
  | succ n ih =>
    intro m a b p q h1 h2 e1 e2
    cases a <;> first | (simp [pqD] at h1; done) | skip
    all_goals (cases b <;> first | (cases m <;> simp [pqD] at h2; done) | skip)
    all_goals first | (simp only [toP, Option.some.injEq] at e1 e2; subst e1 e2; simp [PyData.eqv]; done) | skip
    all_goals first | (simp only [toP, Option.some.injEq, Option.map_eq_some_iff] at e1 e2; subst e1; obtain ⟨ps, _, rfl⟩ := e2; simp [PyData.eqv]; done) | skip
    all_goals first | (simp only [toP, Option.some.injEq, Option.map_eq_some_iff] at e1 e2; subst e2; obtain ⟨ps, _, rfl⟩ := e1; simp [PyData.eqv]; done) | skip
    all_goals (simp only [toP, Option.map_eq_some_iff] at e1 e2; obtain ⟨ps, e1, rfl⟩ := e1; obtain ⟨qs, e2, rfl⟩ := e2)
    all_goals first | (simp only [PyData.eqv]; simp; done) | skip
    all_goals (cases m with
      | zero => simp [pqD] at h2
      | succ m =>
        simp only [pqD] at h1 h2
        have := eqvAll_pq (n := n) (m := m) (fun a b p q => ih m a b p q) _ _ ps qs h1 h2 e1 e2
        simp only [PyData.eqv, this, D.lst.injEq, D.tup.injEq])
theorem eq_pq {n m : Nat} {a b : D} (ha : pqD n a = true) (hb : pqD m b = true) (hn : n ≤ 60) (hm : m ≤ 60) : ∃ r, dEqB a b = some r ∧ (r = true ↔ a = b) := by
  obtain ⟨p, e1, c1, d1⟩ := toP_pq n a ha
  obtain ⟨q, e2, c2, d2⟩ := toP_pq m b hb
  have key := eqv_pq n m a b p q ha hb e1 e2
  have s1 : SeqAt.shaped p = true := by unfold SeqAt.shaped; rw [c1, Bool.true_and]; exact decide_eq_true (by omega)
  have s2 : SeqAt.shaped q = true := by unfold SeqAt.shaped; rw [c2, Bool.true_and]; exact decide_eq_true (by omega)
  unfold dEqB
  split <;> first | exact ⟨_, rfl, by simp⟩ | skip
  rw [e1, e2]
  dsimp only
  rw [if_pos ⟨s1, s2⟩]
  exact ⟨_, rfl, key⟩
theorem eq_self {n : Nat} {a : D} (ha : pqD n a = true) (hn : n ≤ 60) : dEq a a = some (.bl true) ∧ dNe a a = some (.bl false) := by
  obtain ⟨r, e, h⟩ := eq_pq ha ha hn hn
  have : r = true := h.mpr rfl
  subst this
  unfold dEq dNe
  rw [e]
  exact ⟨rfl, rfl⟩
theorem pq_ints {n : Nat} (xs : List Int) : (xs.map D.int).all (pqD n) = true := by
  rw [List.all_eq_true]
  intro d hd
  rw [List.mem_map] at hd
  obtain ⟨i, _, rfl⟩ := hd
  cases n <;> rfl
theorem pq_lst {n : Nat} (xs : List Int) : pqD (n + 1) (.lst (xs.map D.int)) = true := by simp only [pqD]; exact pq_ints xs
theorem pq_tup {n : Nat} (xs : List Int) : pqD (n + 1) (.tup (xs.map D.int)) = true := by simp only [pqD]; exact pq_ints xs
end S

namespace S
open PySem PySem.Spec PyProof.Rows L2 RZ Mr
def k_OPERATORS : D := .tup [.str "+", .str "-", .str "*", .str "//", .str "mod", .str "min", .str "max", .str "less", .str "equal"]
def k_FOLDS : D := .tup [.str "+", .str "*", .str "min", .str "max"]
def k_LIMIT : D := .int 1000000000000000000000000000000000000000000000000000000000000
/-! result_of -/
def mb_result_of (A : Ad) : MS (O A) :=
  (mSeq (O A) (mIfS (O A) (mTest (O A) (mBin (O A) dEq (mVar (O A) 0) (mC (O A) (.str "+"))))
  (mRet (O A) (mBin (O A) dAdd (mVar (O A) 1) (mVar (O A) 2)))
  (mNext (O A)))
  (mSeq (O A) (mIfS (O A) (mTest (O A) (mBin (O A) dEq (mVar (O A) 0) (mC (O A) (.str "-"))))
  (mRet (O A) (mBin (O A) dSub (mVar (O A) 1) (mVar (O A) 2)))
  (mNext (O A)))
  (mSeq (O A) (mIfS (O A) (mTest (O A) (mBin (O A) dEq (mVar (O A) 0) (mC (O A) (.str "*"))))
  (mRet (O A) (mBin (O A) dMul (mVar (O A) 1) (mVar (O A) 2)))
  (mNext (O A)))
  (mSeq (O A) (mIfS (O A) (mTest (O A) (mBin (O A) dEq (mVar (O A) 0) (mC (O A) (.str "//"))))
  (mRet (O A) (mBin (O A) dDiv (mVar (O A) 1) (mVar (O A) 2)))
  (mNext (O A)))
  (mSeq (O A) (mIfS (O A) (mTest (O A) (mBin (O A) dEq (mVar (O A) 0) (mC (O A) (.str "mod"))))
  (mRet (O A) (mBin (O A) dMod (mVar (O A) 1) (mVar (O A) 2)))
  (mNext (O A)))
  (mSeq (O A) (mIfS (O A) (mTest (O A) (mBin (O A) dEq (mVar (O A) 0) (mC (O A) (.str "min"))))
  (mRet (O A) (mCl (O A) dMin2 (mCons (O A) (mVar (O A) 1) (mCons (O A) (mVar (O A) 2) (mNil (O A))))))
  (mNext (O A)))
  (mSeq (O A) (mIfS (O A) (mTest (O A) (mBin (O A) dEq (mVar (O A) 0) (mC (O A) (.str "max"))))
  (mRet (O A) (mCl (O A) dMax2 (mCons (O A) (mVar (O A) 1) (mCons (O A) (mVar (O A) 2) (mNil (O A))))))
  (mNext (O A)))
  (mSeq (O A) (mIfS (O A) (mTest (O A) (mBin (O A) dEq (mVar (O A) 0) (mC (O A) (.str "less"))))
  (mRet (O A) (mCl (O A) dIntC (mCons (O A) (mBin (O A) dLt (mVar (O A) 1) (mVar (O A) 2)) (mNil (O A)))))
  (mNext (O A)))
  (mRet (O A) (mCl (O A) dIntC (mCons (O A) (mBin (O A) dEq (mVar (O A) 1) (mVar (O A) 2)) (mNil (O A)))))))))))))
def m_result_of (A : Ad) : List D → Dr → R Dr D := runF (O A) 3 (mb_result_of A)
/-! check_operator -/
def mb_check_operator (A : Ad) : MS (O A) :=
  (mIfS (O A) (mTest (O A) (mBin (O A) dNotIn (mVar (O A) 0) (mVar (O A) 1)))
  (mRaise (O A) (A.c .OperatorError) ["operator"] (mCons (O A) (mVar (O A) 0) (mNil (O A))))
  (mNext (O A)))
def m_check_operator (A : Ad) : List D → Dr → R Dr D := runF (O A) 2 (mb_check_operator A)
/-! apply -/
def mb_apply (A : Ad) : MS (O A) :=
  (mSeq (O A) (mDrop (O A) (mCall (O A) 2 (m_check_operator A) (mCons (O A) (mVar (O A) 0) (mCons (O A) (mC (O A) k_OPERATORS) (mNil (O A))))))
  (mSeq (O A) (mIfS (O A) (mAnd (O A) (mTest (O A) (mBin (O A) dIn (mVar (O A) 0) (mCl (O A) dTup (mCons (O A) (mC (O A) (.str "//")) (mCons (O A) (mC (O A) (.str "mod")) (mNil (O A))))))) (mTest (O A) (mBin (O A) dEq (mVar (O A) 2) (mC (O A) (.int 0)))))
  (mRaise (O A) (A.c .FaultError) ["reason"] (mCons (O A) (mC (O A) (.str "division")) (mNil (O A))))
  (mNext (O A)))
  (mSeq (O A) (mAsg (O A) (mCall (O A) 3 (m_result_of A) (mCons (O A) (mVar (O A) 0) (mCons (O A) (mVar (O A) 1) (mCons (O A) (mVar (O A) 2) (mNil (O A)))))) (fName 3))
  (mSeq (O A) (mIfS (O A) (mTest (O A) (mBin (O A) dGe (mCl (O A) dAbs (mCons (O A) (mVar (O A) 3) (mNil (O A)))) (mC (O A) k_LIMIT)))
  (mRaise (O A) (A.c .FaultError) ["reason"] (mCons (O A) (mC (O A) (.str "overflow")) (mNil (O A))))
  (mNext (O A)))
  (mRet (O A) (mVar (O A) 3))))))
def m_apply (A : Ad) : List D → Dr → R Dr D := runF (O A) 4 (mb_apply A)
/-! fold -/
def bd_fold_0 (A : Ad) : MS (O A) :=
  (mAsg (O A) (mCall (O A) 3 (m_apply A) (mCons (O A) (mVar (O A) 0) (mCons (O A) (mVar (O A) 2) (mCons (O A) (mVar (O A) 3) (mNil (O A)))))) (fName 2))
def mb_fold (A : Ad) : MS (O A) :=
  (mSeq (O A) (mDrop (O A) (mCall (O A) 2 (m_check_operator A) (mCons (O A) (mVar (O A) 0) (mCons (O A) (mC (O A) k_FOLDS) (mNil (O A))))))
  (mSeq (O A) (mAsg (O A) (mBin (O A) dIdx (mVar (O A) 1) (mC (O A) (.int 0))) (fName 2))
  (mSeq (O A) (mFor (O A) (mItS (O A) (mSlice (O A) (mVar (O A) 1) (mPart (O A) (mC (O A) (.int 1))) (mNoPart (O A)))) (fName 3)
  (bd_fold_0 A))
  (mRet (O A) (mVar (O A) 2)))))
def m_fold (A : Ad) : List D → Dr → R Dr D := runF (O A) 4 (mb_fold A)
/-! law_result -/
def mb_law_result (A : Ad) : MS (O A) :=
  (mSeq (O A) (mIfS (O A) (mAnd (O A) (mTest (O A) (mBin (O A) dIn (mVar (O A) 0) (mCl (O A) dTup (mCons (O A) (mC (O A) (.str "//")) (mCons (O A) (mC (O A) (.str "mod")) (mNil (O A))))))) (mTest (O A) (mBin (O A) dEq (mVar (O A) 2) (mC (O A) (.int 0)))))
  (mRet (O A) (mC (O A) (.str "division")))
  (mNext (O A)))
  (mSeq (O A) (mOwnD (O A) 3 (mPCons (O A) (mC (O A) (.str "+")) (mBin (O A) dAdd (mVar (O A) 1) (mVar (O A) 2)) (mPCons (O A) (mC (O A) (.str "-")) (mBin (O A) dSub (mVar (O A) 1) (mVar (O A) 2)) (mPCons (O A) (mC (O A) (.str "*")) (mBin (O A) dMul (mVar (O A) 1) (mVar (O A) 2)) (mPCons (O A) (mC (O A) (.str "min")) (mVar (O A) 1) (mPCons (O A) (mC (O A) (.str "max")) (mVar (O A) 1) (mPNil (O A))))))))
  (mSeq (O A) (mPutD (O A) 3 (mC (O A) (.str "less")) (mCl (O A) dIntC (mCons (O A) (mBin (O A) dLt (mVar (O A) 1) (mVar (O A) 2)) (mNil (O A)))))
  (mSeq (O A) (mPutD (O A) 3 (mC (O A) (.str "equal")) (mCl (O A) dIntC (mCons (O A) (mBin (O A) dEq (mVar (O A) 1) (mVar (O A) 2)) (mNil (O A)))))
  (mSeq (O A) (mIfS (O A) (mTest (O A) (mBin (O A) dLt (mVar (O A) 2) (mVar (O A) 1)))
  (mPutD (O A) 3 (mC (O A) (.str "min")) (mVar (O A) 2))
  (mNext (O A)))
  (mSeq (O A) (mIfS (O A) (mTest (O A) (mBin (O A) dGt (mVar (O A) 2) (mVar (O A) 1)))
  (mPutD (O A) 3 (mC (O A) (.str "max")) (mVar (O A) 2))
  (mNext (O A)))
  (mSeq (O A) (mIfS (O A) (mTest (O A) (mBin (O A) dNe (mVar (O A) 2) (mC (O A) (.int 0))))
  (mSeq (O A) (mPutD (O A) 3 (mC (O A) (.str "//")) (mBin (O A) dDiv (mVar (O A) 1) (mVar (O A) 2)))
  (mPutD (O A) 3 (mC (O A) (.str "mod")) (mBin (O A) dSub (mVar (O A) 1) (mBin (O A) dMul (mVar (O A) 2) (mBin (O A) dDiv (mVar (O A) 1) (mVar (O A) 2))))))
  (mNext (O A)))
  (mSeq (O A) (mIfS (O A) (mTest (O A) (mBin (O A) dGt (mCl (O A) dLen (mCons (O A) (mCl (O A) dStrI (mCons (O A) (mCl (O A) dAbs (mCons (O A) (mGetD (O A) 3 (mVar (O A) 0)) (mNil (O A)))) (mNil (O A)))) (mNil (O A)))) (mC (O A) (.int 60))))
  (mRet (O A) (mC (O A) (.str "overflow")))
  (mNext (O A)))
  (mRet (O A) (mGetD (O A) 3 (mVar (O A) 0)))))))))))
def m_law_result (A : Ad) : List D → Dr → R Dr D := runF (O A) 4 (mb_law_result A)
/-! law_kind -/
def mb_law_kind (A : Ad) : MS (O A) :=
  (mSeq (O A) (mAsg (O A) (mCl (O A) dList (mCons (O A) (mIsX (O A) 0 (A.t .OperatorError)) (mCons (O A) (mIsX (O A) 0 (A.t .FaultError)) (mCons (O A) (mIsX (O A) 0 (A.t .AxisError)) (mNil (O A)))))) (fName 1))
  (mSeq (O A) (mIfS (O A) (mOr (O A) (mTest (O A) (mBin (O A) dNe (mCountB (O A) (mVar (O A) 1) (mC (O A) (.bl true))) (mC (O A) (.int 1)))) (mOr (O A) (mNot (O A) (mTruth (O A) (mIsX (O A) 0 A.tL))) (mNot (O A) (mTruth (O A) (mIsX (O A) 0 A.tL)))))
  (mRet (O A) (mCl (O A) dTup (mCons (O A) (mC (O A) (.str "odd")) (mNil (O A)))))
  (mNext (O A)))
  (mSeq (O A) (mIfS (O A) (mTruth (O A) (mBin (O A) dIdx (mVar (O A) 1) (mC (O A) (.int 0))))
  (mRet (O A) (mCl (O A) dTup (mCons (O A) (mC (O A) (.str "operator")) (mCons (O A) (mXf (O A) 0 (A.c .OperatorError) "operator") (mNil (O A))))))
  (mNext (O A)))
  (mRet (O A) (mIf (O A) (mTruth (O A) (mBin (O A) dIdx (mVar (O A) 1) (mC (O A) (.int 1)))) (mCl (O A) dTup (mCons (O A) (mC (O A) (.str "fault")) (mCons (O A) (mXf (O A) 0 (A.c .FaultError) "reason") (mNil (O A))))) (mCl (O A) dTup (mCons (O A) (mC (O A) (.str "axis")) (mCons (O A) (mXf (O A) 0 (A.c .AxisError) "axis") (mNil (O A))))))))))
def m_law_kind (A : Ad) : Addr → List (Str × D) → Dr → R Dr D := runX (O A) 1 (mb_law_kind A)
end S

namespace S
open PySem PySem.Spec PyProof.Rows L2 RZ Mr
theorem ops_ne : (("+" : Str) ≠ "-") ∧ (("+" : Str) ≠ "*") ∧ (("+" : Str) ≠ "//") ∧ (("+" : Str) ≠ "mod") ∧ (("+" : Str) ≠ "min") ∧ (("+" : Str) ≠ "max") ∧ (("+" : Str) ≠ "less") ∧ (("+" : Str) ≠ "equal") ∧ (("-" : Str) ≠ "+") ∧ (("-" : Str) ≠ "*") ∧ (("-" : Str) ≠ "//") ∧ (("-" : Str) ≠ "mod") ∧ (("-" : Str) ≠ "min") ∧ (("-" : Str) ≠ "max") ∧ (("-" : Str) ≠ "less") ∧ (("-" : Str) ≠ "equal") ∧ (("*" : Str) ≠ "+") ∧ (("*" : Str) ≠ "-") ∧ (("*" : Str) ≠ "//") ∧ (("*" : Str) ≠ "mod") ∧ (("*" : Str) ≠ "min") ∧ (("*" : Str) ≠ "max") ∧ (("*" : Str) ≠ "less") ∧ (("*" : Str) ≠ "equal") ∧ (("//" : Str) ≠ "+") ∧ (("//" : Str) ≠ "-") ∧ (("//" : Str) ≠ "*") ∧ (("//" : Str) ≠ "mod") ∧ (("//" : Str) ≠ "min") ∧ (("//" : Str) ≠ "max") ∧ (("//" : Str) ≠ "less") ∧ (("//" : Str) ≠ "equal") ∧ (("mod" : Str) ≠ "+") ∧ (("mod" : Str) ≠ "-") ∧ (("mod" : Str) ≠ "*") ∧ (("mod" : Str) ≠ "//") ∧ (("mod" : Str) ≠ "min") ∧ (("mod" : Str) ≠ "max") ∧ (("mod" : Str) ≠ "less") ∧ (("mod" : Str) ≠ "equal") ∧ (("min" : Str) ≠ "+") ∧ (("min" : Str) ≠ "-") ∧ (("min" : Str) ≠ "*") ∧ (("min" : Str) ≠ "//") ∧ (("min" : Str) ≠ "mod") ∧ (("min" : Str) ≠ "max") ∧ (("min" : Str) ≠ "less") ∧ (("min" : Str) ≠ "equal") ∧ (("max" : Str) ≠ "+") ∧ (("max" : Str) ≠ "-") ∧ (("max" : Str) ≠ "*") ∧ (("max" : Str) ≠ "//") ∧ (("max" : Str) ≠ "mod") ∧ (("max" : Str) ≠ "min") ∧ (("max" : Str) ≠ "less") ∧ (("max" : Str) ≠ "equal") ∧ (("less" : Str) ≠ "+") ∧ (("less" : Str) ≠ "-") ∧ (("less" : Str) ≠ "*") ∧ (("less" : Str) ≠ "//") ∧ (("less" : Str) ≠ "mod") ∧ (("less" : Str) ≠ "min") ∧ (("less" : Str) ≠ "max") ∧ (("less" : Str) ≠ "equal") ∧ (("equal" : Str) ≠ "+") ∧ (("equal" : Str) ≠ "-") ∧ (("equal" : Str) ≠ "*") ∧ (("equal" : Str) ≠ "//") ∧ (("equal" : Str) ≠ "mod") ∧ (("equal" : Str) ≠ "min") ∧ (("equal" : Str) ≠ "max") ∧ (("equal" : Str) ≠ "less") := by
  and_intros <;> decide +kernel
def av (v : Int) : Int := if v < 0 then -v else v
def dv (v : Int) : D := if 10 ^ 60 ≤ av v then .str "overflow" else .int v
theorem av_b {v : Int} (h1 : -(10 ^ 150) < v) (h2 : v < 10 ^ 150) : 0 ≤ av v ∧ av v < 10 ^ 150 := by
  unfold av
  split <;> omega
theorem lenStr {n : Int} (h0 : 0 ≤ n) (h1 : n < 10 ^ 150) : ∃ L : Int, dStrI [.int n] = some (.str (toString n)) ∧ dLen [.str (toString n)] = some (.int L) ∧ (60 < L ↔ 10 ^ 60 ≤ n) := by
  obtain ⟨m, rfl⟩ := Int.eq_ofNat_of_zero_le h0
  have e : dStrI [.int (m : Int)] = some (.str (toString (m : Int))) := by
    show (if ((m : Int).natAbs.log2 < 1920) then some (D.str (toString (m : Int))) else none) = _
    rw [if_pos (Nat.lt_trans (lg4 (by omega) (by omega)) (by decide))]
  have e60 := strLen m
  have hl : (Str.ofString (toString (m : Int))).length ≤ 100000 := by
    have e1 : (Str.ofString (toString (m : Int))).length = (Nat.toDigits 10 m).length := by
      have := congrArg List.length (PySem.W.KIN.signs_num m)
      rw [List.length_map] at this
      rw [← this]
      rfl
    have e2 := Nat.length_repr_le_iff (n := m) (k := 150) (by decide)
    rw [← String.length_toList, Nat.toList_repr] at e2
    have e3 : (10 : Int) ^ 150 = ((10 ^ 150 : Nat) : Int) := by decide +kernel
    rw [e3] at h1
    have := e2.mpr (by omega)
    omega
  refine ⟨((Str.ofString (toString (m : Int))).length : Int), e, ?_, ?_⟩
  · show (if (Str.ofString (toString (m : Int))).length ≤ 100000 then some (D.int ((Str.ofString (toString (m : Int))).length : Int)) else none) = _
    rw [if_pos hl]
  · have e4 : (10 : Int) ^ 60 = ((10 ^ 60 : Nat) : Int) := by decide +kernel
    rw [e4]
    omega
theorem apply_core (A : Ad) {op : Str} {l r v : Int} {s : Dr} {q : Bool} (h1 : dNotIn (.str op) k_OPERATORS = some (.bl false)) (h2 : dIn (.str op) (.tup [.str "//", .str "mod"]) = some (.bl q)) (hq : q = true → r ≠ 0) (h3 : m_result_of A [.str op, .int l, .int r] s = .ok (.int v) s) :
    m_apply A [.str op, .int l, .int r] s = if 10 ^ 60 ≤ av v then .err (A.c .FaultError) [("reason", .str "overflow")] s else .ok (.int v) s := by
  have ck : m_check_operator A [.str op, k_OPERATORS] s = .ok .non s := by
    simp only [m_check_operator, mb_check_operator, runF, mSeq, seqS, mAsg, mBin, mUn, mVar, mC, mRet, mNext, mIfS, mTest, mTruth, mAnd, mOr, mNot, mAndV, mOrV, mNotV, mCl, mCons, mNil, mCall, mDrop, mDrI, mDrNe, mDrIx, mDrLen, mDrSet, mDrPop, drL, isDr0, toS, fName, R.lift, bind_ok, bind_err, bind_bad, eAdd, eSub, eMul, eDiv, eMod, ePow, eNeg, eLt, eLe, eGt, eGe, eEqI, eNeI, eEqS, eEqB, eNeB, eIdxL, eIdxT, eBool, eAbs, Bool.false_eq_true, dList, dTup, if_true, if_false, if_pos, List.map_cons, List.map_nil, List.length_cons, List.length_nil, List.replicate, List.cons_append, List.nil_append, List.getElem?_cons_zero, List.getElem?_cons_succ, List.set_cons_zero, List.set_cons_succ, Nat.reduceAdd, Nat.reduceSub, Nat.reduceLeDiff, Nat.reduceLT, Nat.reduceMul, Int.reduceToNat, Int.reduceEq, Int.reduceAdd, Int.reduceSub, Int.reduceNeg, Bool.not_true, Bool.not_false, decide_true, decide_false, reduceIte, Nat.reduceEqDiff, ite_true, ite_false, h1]
  have z0 : (if q = true then (R.ok (decide (r = 0)) s : R Dr Bool) else R.ok false s) = .ok false s := by
    cases q with
    | true => rw [if_pos rfl, decide_eq_false (hq rfl)]
    | false => rfl
  by_cases hv : 10 ^ 60 ≤ (if v < 0 then -v else v)
  · rw [if_pos (show 10 ^ 60 ≤ av v from hv)]
    have hv' : k_LIMIT = .int (10 ^ 60) := by unfold k_LIMIT; exact congrArg D.int (by decide +kernel)
    simp only [m_apply, mb_apply, mRaise, runF, mSeq, seqS, mAsg, mBin, mUn, mVar, mC, mRet, mNext, mIfS, mTest, mTruth, mAnd, mOr, mNot, mAndV, mOrV, mNotV, mCl, mCons, mNil, mCall, mDrop, mDrI, mDrNe, mDrIx, mDrLen, mDrSet, mDrPop, drL, isDr0, toS, fName, R.lift, bind_ok, bind_err, bind_bad, eAdd, eSub, eMul, eDiv, eMod, ePow, eNeg, eLt, eLe, eGt, eGe, eEqI, eNeI, eEqS, eEqB, eNeB, eIdxL, eIdxT, eBool, eAbs, Bool.false_eq_true, dList, dTup, if_true, if_false, if_pos, List.map_cons, List.map_nil, List.length_cons, List.length_nil, List.replicate, List.cons_append, List.nil_append, List.getElem?_cons_zero, List.getElem?_cons_succ, List.set_cons_zero, List.set_cons_succ, Nat.reduceAdd, Nat.reduceSub, Nat.reduceLeDiff, Nat.reduceLT, Nat.reduceMul, Int.reduceToNat, Int.reduceEq, Int.reduceAdd, Int.reduceSub, Int.reduceNeg, Bool.not_true, Bool.not_false, decide_true, decide_false, reduceIte, Nat.reduceEqDiff, ite_true, ite_false, ck, h2, h3, hv', z0, hv]
    rfl
  · rw [if_neg (show ¬ 10 ^ 60 ≤ av v from hv)]
    have hv' : k_LIMIT = .int (10 ^ 60) := by unfold k_LIMIT; exact congrArg D.int (by decide +kernel)
    simp only [m_apply, mb_apply, runF, mSeq, seqS, mAsg, mBin, mUn, mVar, mC, mRet, mNext, mIfS, mTest, mTruth, mAnd, mOr, mNot, mAndV, mOrV, mNotV, mCl, mCons, mNil, mCall, mDrop, mDrI, mDrNe, mDrIx, mDrLen, mDrSet, mDrPop, drL, isDr0, toS, fName, R.lift, bind_ok, bind_err, bind_bad, eAdd, eSub, eMul, eDiv, eMod, ePow, eNeg, eLt, eLe, eGt, eGe, eEqI, eNeI, eEqS, eEqB, eNeB, eIdxL, eIdxT, eBool, eAbs, Bool.false_eq_true, dList, dTup, if_true, if_false, if_pos, List.map_cons, List.map_nil, List.length_cons, List.length_nil, List.replicate, List.cons_append, List.nil_append, List.getElem?_cons_zero, List.getElem?_cons_succ, List.set_cons_zero, List.set_cons_succ, Nat.reduceAdd, Nat.reduceSub, Nat.reduceLeDiff, Nat.reduceLT, Nat.reduceMul, Int.reduceToNat, Int.reduceEq, Int.reduceAdd, Int.reduceSub, Int.reduceNeg, Bool.not_true, Bool.not_false, decide_true, decide_false, reduceIte, Nat.reduceEqDiff, ite_true, ite_false, ck, h2, h3, hv', z0, hv]
theorem result_div (A : Ad) {op : Str} {l : Int} {s : Dr} (h2 : dIn (.str op) (.tup [.str "//", .str "mod"]) = some (.bl true)) :
    m_law_result A [.str op, .int l, .int 0] s = .ok (.str "division") s := by
  simp only [m_law_result, mb_law_result, runF, mSeq, seqS, mAsg, mBin, mUn, mVar, mC, mRet, mNext, mIfS, mTest, mTruth, mAnd, mOr, mNot, mAndV, mOrV, mNotV, mCl, mCons, mNil, mCall, mDrop, mDrI, mDrNe, mDrIx, mDrLen, mDrSet, mDrPop, drL, isDr0, toS, fName, R.lift, bind_ok, bind_err, bind_bad, eAdd, eSub, eMul, eDiv, eMod, ePow, eNeg, eLt, eLe, eGt, eGe, eEqI, eNeI, eEqS, eEqB, eNeB, eIdxL, eIdxT, eBool, eAbs, Bool.false_eq_true, dList, dTup, if_true, if_false, if_pos, List.map_cons, List.map_nil, List.length_cons, List.length_nil, List.replicate, List.cons_append, List.nil_append, List.getElem?_cons_zero, List.getElem?_cons_succ, List.set_cons_zero, List.set_cons_succ, Nat.reduceAdd, Nat.reduceSub, Nat.reduceLeDiff, Nat.reduceLT, Nat.reduceMul, Int.reduceToNat, Int.reduceEq, Int.reduceAdd, Int.reduceSub, Int.reduceNeg, Bool.not_true, Bool.not_false, decide_true, decide_false, reduceIte, Nat.reduceEqDiff, ite_true, ite_false, h2]
theorem fdiv_b {l r : Int} (h1 : -(10 ^ 61) < l) (h2 : l < 10 ^ 61) (hr : r ≠ 0) : -(10 ^ 61) - 1 < l.fdiv r ∧ l.fdiv r < 10 ^ 61 + 1 := by
  have e := Int.fdiv_eq_ediv (a := l) (b := r)
  have n := Int.natAbs_ediv_le_natAbs l r
  rw [e]
  split <;> omega
/-- the three ways in which two ints stand -/
theorem tri (l r : Int) {P : Prop} (h1 : r < l → ¬ l < r → ¬ r > l → decide (l = r) = false → P) (h2 : ¬ r < l → l < r → r > l → decide (l = r) = false → P) (h3 : ¬ r < l → ¬ l < r → ¬ r > l → decide (l = r) = true → P) : P := by
  by_cases c1 : r < l
  · exact h1 c1 (by omega) (by omega) (decide_eq_false (by omega))
  · by_cases c2 : l < r
    · exact h2 c1 c2 c2 (decide_eq_false (by omega))
    · exact h3 c1 c2 c2 (decide_eq_true (by omega))

theorem in_0 : dNotIn (.str "+") k_OPERATORS = some (.bl false) := rfl
theorem tw_0 : dIn (.str "+") (.tup [.str "//", .str "mod"]) = some (.bl false) := rfl
theorem ro_0 (A : Ad) {l r : Int} {s : Dr} (l0 : -(10 ^ 61) < l) (l1 : l < 10 ^ 61) (r0 : -(10 ^ 61) < r) (r1 : r < 10 ^ 61) : m_result_of A [.str "+", .int l, .int r] s = .ok (.int (l + r)) s := by
  have m1 : CMulG l r := mulG (by omega) (by omega) (by omega) (by omega)
  simp only [m_result_of, mb_result_of, runF, mSeq, seqS, mAsg, mBin, mUn, mVar, mC, mRet, mNext, mIfS, mTest, mTruth, mAnd, mOr, mNot, mAndV, mOrV, mNotV, mCl, mCons, mNil, mCall, mDrop, mDrI, mDrNe, mDrIx, mDrLen, mDrSet, mDrPop, drL, isDr0, toS, fName, R.lift, bind_ok, bind_err, bind_bad, eAdd, eSub, eMul, eDiv, eMod, ePow, eNeg, eLt, eLe, eGt, eGe, eEqI, eNeI, eEqS, eEqB, eNeB, eIdxL, eIdxT, eBool, eAbs, Bool.false_eq_true, dList, dTup, if_true, if_false, if_pos, List.map_cons, List.map_nil, List.length_cons, List.length_nil, List.replicate, List.cons_append, List.nil_append, List.getElem?_cons_zero, List.getElem?_cons_succ, List.set_cons_zero, List.set_cons_succ, Nat.reduceAdd, Nat.reduceSub, Nat.reduceLeDiff, Nat.reduceLT, Nat.reduceMul, Int.reduceToNat, Int.reduceEq, Int.reduceAdd, Int.reduceSub, Int.reduceNeg, Bool.not_true, Bool.not_false, decide_true, decide_false, reduceIte, Nat.reduceEqDiff, ite_true, ite_false, ops_ne, dMin2, dMax2, dI2, dIntC, m1]
theorem lr_0 (A : Ad) {l r : Int} {s : Dr} (l0 : -(10 ^ 61) < l) (l1 : l < 10 ^ 61) (r0 : -(10 ^ 61) < r) (r1 : r < 10 ^ 61) (v0 : -(10 ^ 150) < (l + r)) (v1 : (l + r) < 10 ^ 150) : m_law_result A [.str "+", .int l, .int r] s = .ok (dv (l + r)) s := by
  have m1 : CMulG l r := mulG (by omega) (by omega) (by omega) (by omega)
  obtain ⟨a0, a1⟩ := av_b v0 v1
  obtain ⟨L, e1, e2, e3⟩ := lenStr a0 a1
  unfold av at e1 e2
  have e4 : (if 10 ^ 60 ≤ av (l + r) then D.str "overflow" else D.int (l + r)) = dv (l + r) := rfl
  have hv : 60 < L ∨ ¬ 60 < L := Decidable.em _
  by_cases hr0 : r = 0
  · have hz : decide (r = 0) = true := decide_eq_true hr0
    refine tri l r (fun c1 c2 c2' c3 => ?_) (fun c1 c2 c2' c3 => ?_) (fun c1 c2 c2' c3 => ?_)
    · rcases hv with hv | hv
      · rw [← e4, if_pos (e3.mp hv)]
        simp only [m_law_result, mb_law_result, mOwnD, mPutD, mGetD, mPCons, mPNil, keysP, toKey, mergeP, putP, valP, List.foldl_cons, List.foldl_nil, List.any_cons, List.any_nil, List.find?_cons, List.find?_nil, Sum.inr.injEq, Option.map_some, Bool.or_false, Bool.or_true, Bool.true_or, Bool.false_or, dIntC, runF, mSeq, seqS, mAsg, mBin, mUn, mVar, mC, mRet, mNext, mIfS, mTest, mTruth, mAnd, mOr, mNot, mAndV, mOrV, mNotV, mCl, mCons, mNil, mCall, mDrop, mDrI, mDrNe, mDrIx, mDrLen, mDrSet, mDrPop, drL, isDr0, toS, fName, R.lift, bind_ok, bind_err, bind_bad, eAdd, eSub, eMul, eDiv, eMod, ePow, eNeg, eLt, eLe, eGt, eGe, eEqI, eNeI, eEqS, eEqB, eNeB, eIdxL, eIdxT, eBool, eAbs, Bool.false_eq_true, dList, dTup, if_true, if_false, if_pos, List.map_cons, List.map_nil, List.length_cons, List.length_nil, List.replicate, List.cons_append, List.nil_append, List.getElem?_cons_zero, List.getElem?_cons_succ, List.set_cons_zero, List.set_cons_succ, Nat.reduceAdd, Nat.reduceSub, Nat.reduceLeDiff, Nat.reduceLT, Nat.reduceMul, Int.reduceToNat, Int.reduceEq, Int.reduceAdd, Int.reduceSub, Int.reduceNeg, Bool.not_true, Bool.not_false, decide_true, decide_false, reduceIte, Nat.reduceEqDiff, ite_true, ite_false, ops_ne, tw_0, m1, c1, c2, c2', c3, hz] at e1 e2 ⊢
        simp only [runF, mSeq, seqS, mAsg, mBin, mUn, mVar, mC, mRet, mNext, mIfS, mTest, mTruth, mAnd, mOr, mNot, mAndV, mOrV, mNotV, mCl, mCons, mNil, mCall, mDrop, mDrI, mDrNe, mDrIx, mDrLen, mDrSet, mDrPop, drL, isDr0, toS, fName, R.lift, bind_ok, bind_err, bind_bad, eAdd, eSub, eMul, eDiv, eMod, ePow, eNeg, eLt, eLe, eGt, eGe, eEqI, eNeI, eEqS, eEqB, eNeB, eIdxL, eIdxT, eBool, eAbs, Bool.false_eq_true, dList, dTup, if_true, if_false, if_pos, List.map_cons, List.map_nil, List.length_cons, List.length_nil, List.replicate, List.cons_append, List.nil_append, List.getElem?_cons_zero, List.getElem?_cons_succ, List.set_cons_zero, List.set_cons_succ, Nat.reduceAdd, Nat.reduceSub, Nat.reduceLeDiff, Nat.reduceLT, Nat.reduceMul, Int.reduceToNat, Int.reduceEq, Int.reduceAdd, Int.reduceSub, Int.reduceNeg, Bool.not_true, Bool.not_false, decide_true, decide_false, reduceIte, Nat.reduceEqDiff, ite_true, ite_false, e1, e2, hv, List.find?_cons, List.find?_nil, Sum.inr.injEq, Option.map_some, ops_ne]
      · rw [← e4, if_neg (fun z => hv (e3.mpr z))]
        simp only [m_law_result, mb_law_result, mOwnD, mPutD, mGetD, mPCons, mPNil, keysP, toKey, mergeP, putP, valP, List.foldl_cons, List.foldl_nil, List.any_cons, List.any_nil, List.find?_cons, List.find?_nil, Sum.inr.injEq, Option.map_some, Bool.or_false, Bool.or_true, Bool.true_or, Bool.false_or, dIntC, runF, mSeq, seqS, mAsg, mBin, mUn, mVar, mC, mRet, mNext, mIfS, mTest, mTruth, mAnd, mOr, mNot, mAndV, mOrV, mNotV, mCl, mCons, mNil, mCall, mDrop, mDrI, mDrNe, mDrIx, mDrLen, mDrSet, mDrPop, drL, isDr0, toS, fName, R.lift, bind_ok, bind_err, bind_bad, eAdd, eSub, eMul, eDiv, eMod, ePow, eNeg, eLt, eLe, eGt, eGe, eEqI, eNeI, eEqS, eEqB, eNeB, eIdxL, eIdxT, eBool, eAbs, Bool.false_eq_true, dList, dTup, if_true, if_false, if_pos, List.map_cons, List.map_nil, List.length_cons, List.length_nil, List.replicate, List.cons_append, List.nil_append, List.getElem?_cons_zero, List.getElem?_cons_succ, List.set_cons_zero, List.set_cons_succ, Nat.reduceAdd, Nat.reduceSub, Nat.reduceLeDiff, Nat.reduceLT, Nat.reduceMul, Int.reduceToNat, Int.reduceEq, Int.reduceAdd, Int.reduceSub, Int.reduceNeg, Bool.not_true, Bool.not_false, decide_true, decide_false, reduceIte, Nat.reduceEqDiff, ite_true, ite_false, ops_ne, tw_0, m1, c1, c2, c2', c3, hz] at e1 e2 ⊢
        simp only [runF, mSeq, seqS, mAsg, mBin, mUn, mVar, mC, mRet, mNext, mIfS, mTest, mTruth, mAnd, mOr, mNot, mAndV, mOrV, mNotV, mCl, mCons, mNil, mCall, mDrop, mDrI, mDrNe, mDrIx, mDrLen, mDrSet, mDrPop, drL, isDr0, toS, fName, R.lift, bind_ok, bind_err, bind_bad, eAdd, eSub, eMul, eDiv, eMod, ePow, eNeg, eLt, eLe, eGt, eGe, eEqI, eNeI, eEqS, eEqB, eNeB, eIdxL, eIdxT, eBool, eAbs, Bool.false_eq_true, dList, dTup, if_true, if_false, if_pos, List.map_cons, List.map_nil, List.length_cons, List.length_nil, List.replicate, List.cons_append, List.nil_append, List.getElem?_cons_zero, List.getElem?_cons_succ, List.set_cons_zero, List.set_cons_succ, Nat.reduceAdd, Nat.reduceSub, Nat.reduceLeDiff, Nat.reduceLT, Nat.reduceMul, Int.reduceToNat, Int.reduceEq, Int.reduceAdd, Int.reduceSub, Int.reduceNeg, Bool.not_true, Bool.not_false, decide_true, decide_false, reduceIte, Nat.reduceEqDiff, ite_true, ite_false, e1, e2, hv, List.find?_cons, List.find?_nil, Sum.inr.injEq, Option.map_some, ops_ne]
    · rcases hv with hv | hv
      · rw [← e4, if_pos (e3.mp hv)]
        simp only [m_law_result, mb_law_result, mOwnD, mPutD, mGetD, mPCons, mPNil, keysP, toKey, mergeP, putP, valP, List.foldl_cons, List.foldl_nil, List.any_cons, List.any_nil, List.find?_cons, List.find?_nil, Sum.inr.injEq, Option.map_some, Bool.or_false, Bool.or_true, Bool.true_or, Bool.false_or, dIntC, runF, mSeq, seqS, mAsg, mBin, mUn, mVar, mC, mRet, mNext, mIfS, mTest, mTruth, mAnd, mOr, mNot, mAndV, mOrV, mNotV, mCl, mCons, mNil, mCall, mDrop, mDrI, mDrNe, mDrIx, mDrLen, mDrSet, mDrPop, drL, isDr0, toS, fName, R.lift, bind_ok, bind_err, bind_bad, eAdd, eSub, eMul, eDiv, eMod, ePow, eNeg, eLt, eLe, eGt, eGe, eEqI, eNeI, eEqS, eEqB, eNeB, eIdxL, eIdxT, eBool, eAbs, Bool.false_eq_true, dList, dTup, if_true, if_false, if_pos, List.map_cons, List.map_nil, List.length_cons, List.length_nil, List.replicate, List.cons_append, List.nil_append, List.getElem?_cons_zero, List.getElem?_cons_succ, List.set_cons_zero, List.set_cons_succ, Nat.reduceAdd, Nat.reduceSub, Nat.reduceLeDiff, Nat.reduceLT, Nat.reduceMul, Int.reduceToNat, Int.reduceEq, Int.reduceAdd, Int.reduceSub, Int.reduceNeg, Bool.not_true, Bool.not_false, decide_true, decide_false, reduceIte, Nat.reduceEqDiff, ite_true, ite_false, ops_ne, tw_0, m1, c1, c2, c2', c3, hz] at e1 e2 ⊢
        simp only [runF, mSeq, seqS, mAsg, mBin, mUn, mVar, mC, mRet, mNext, mIfS, mTest, mTruth, mAnd, mOr, mNot, mAndV, mOrV, mNotV, mCl, mCons, mNil, mCall, mDrop, mDrI, mDrNe, mDrIx, mDrLen, mDrSet, mDrPop, drL, isDr0, toS, fName, R.lift, bind_ok, bind_err, bind_bad, eAdd, eSub, eMul, eDiv, eMod, ePow, eNeg, eLt, eLe, eGt, eGe, eEqI, eNeI, eEqS, eEqB, eNeB, eIdxL, eIdxT, eBool, eAbs, Bool.false_eq_true, dList, dTup, if_true, if_false, if_pos, List.map_cons, List.map_nil, List.length_cons, List.length_nil, List.replicate, List.cons_append, List.nil_append, List.getElem?_cons_zero, List.getElem?_cons_succ, List.set_cons_zero, List.set_cons_succ, Nat.reduceAdd, Nat.reduceSub, Nat.reduceLeDiff, Nat.reduceLT, Nat.reduceMul, Int.reduceToNat, Int.reduceEq, Int.reduceAdd, Int.reduceSub, Int.reduceNeg, Bool.not_true, Bool.not_false, decide_true, decide_false, reduceIte, Nat.reduceEqDiff, ite_true, ite_false, e1, e2, hv, List.find?_cons, List.find?_nil, Sum.inr.injEq, Option.map_some, ops_ne]
      · rw [← e4, if_neg (fun z => hv (e3.mpr z))]
        simp only [m_law_result, mb_law_result, mOwnD, mPutD, mGetD, mPCons, mPNil, keysP, toKey, mergeP, putP, valP, List.foldl_cons, List.foldl_nil, List.any_cons, List.any_nil, List.find?_cons, List.find?_nil, Sum.inr.injEq, Option.map_some, Bool.or_false, Bool.or_true, Bool.true_or, Bool.false_or, dIntC, runF, mSeq, seqS, mAsg, mBin, mUn, mVar, mC, mRet, mNext, mIfS, mTest, mTruth, mAnd, mOr, mNot, mAndV, mOrV, mNotV, mCl, mCons, mNil, mCall, mDrop, mDrI, mDrNe, mDrIx, mDrLen, mDrSet, mDrPop, drL, isDr0, toS, fName, R.lift, bind_ok, bind_err, bind_bad, eAdd, eSub, eMul, eDiv, eMod, ePow, eNeg, eLt, eLe, eGt, eGe, eEqI, eNeI, eEqS, eEqB, eNeB, eIdxL, eIdxT, eBool, eAbs, Bool.false_eq_true, dList, dTup, if_true, if_false, if_pos, List.map_cons, List.map_nil, List.length_cons, List.length_nil, List.replicate, List.cons_append, List.nil_append, List.getElem?_cons_zero, List.getElem?_cons_succ, List.set_cons_zero, List.set_cons_succ, Nat.reduceAdd, Nat.reduceSub, Nat.reduceLeDiff, Nat.reduceLT, Nat.reduceMul, Int.reduceToNat, Int.reduceEq, Int.reduceAdd, Int.reduceSub, Int.reduceNeg, Bool.not_true, Bool.not_false, decide_true, decide_false, reduceIte, Nat.reduceEqDiff, ite_true, ite_false, ops_ne, tw_0, m1, c1, c2, c2', c3, hz] at e1 e2 ⊢
        simp only [runF, mSeq, seqS, mAsg, mBin, mUn, mVar, mC, mRet, mNext, mIfS, mTest, mTruth, mAnd, mOr, mNot, mAndV, mOrV, mNotV, mCl, mCons, mNil, mCall, mDrop, mDrI, mDrNe, mDrIx, mDrLen, mDrSet, mDrPop, drL, isDr0, toS, fName, R.lift, bind_ok, bind_err, bind_bad, eAdd, eSub, eMul, eDiv, eMod, ePow, eNeg, eLt, eLe, eGt, eGe, eEqI, eNeI, eEqS, eEqB, eNeB, eIdxL, eIdxT, eBool, eAbs, Bool.false_eq_true, dList, dTup, if_true, if_false, if_pos, List.map_cons, List.map_nil, List.length_cons, List.length_nil, List.replicate, List.cons_append, List.nil_append, List.getElem?_cons_zero, List.getElem?_cons_succ, List.set_cons_zero, List.set_cons_succ, Nat.reduceAdd, Nat.reduceSub, Nat.reduceLeDiff, Nat.reduceLT, Nat.reduceMul, Int.reduceToNat, Int.reduceEq, Int.reduceAdd, Int.reduceSub, Int.reduceNeg, Bool.not_true, Bool.not_false, decide_true, decide_false, reduceIte, Nat.reduceEqDiff, ite_true, ite_false, e1, e2, hv, List.find?_cons, List.find?_nil, Sum.inr.injEq, Option.map_some, ops_ne]
    · rcases hv with hv | hv
      · rw [← e4, if_pos (e3.mp hv)]
        simp only [m_law_result, mb_law_result, mOwnD, mPutD, mGetD, mPCons, mPNil, keysP, toKey, mergeP, putP, valP, List.foldl_cons, List.foldl_nil, List.any_cons, List.any_nil, List.find?_cons, List.find?_nil, Sum.inr.injEq, Option.map_some, Bool.or_false, Bool.or_true, Bool.true_or, Bool.false_or, dIntC, runF, mSeq, seqS, mAsg, mBin, mUn, mVar, mC, mRet, mNext, mIfS, mTest, mTruth, mAnd, mOr, mNot, mAndV, mOrV, mNotV, mCl, mCons, mNil, mCall, mDrop, mDrI, mDrNe, mDrIx, mDrLen, mDrSet, mDrPop, drL, isDr0, toS, fName, R.lift, bind_ok, bind_err, bind_bad, eAdd, eSub, eMul, eDiv, eMod, ePow, eNeg, eLt, eLe, eGt, eGe, eEqI, eNeI, eEqS, eEqB, eNeB, eIdxL, eIdxT, eBool, eAbs, Bool.false_eq_true, dList, dTup, if_true, if_false, if_pos, List.map_cons, List.map_nil, List.length_cons, List.length_nil, List.replicate, List.cons_append, List.nil_append, List.getElem?_cons_zero, List.getElem?_cons_succ, List.set_cons_zero, List.set_cons_succ, Nat.reduceAdd, Nat.reduceSub, Nat.reduceLeDiff, Nat.reduceLT, Nat.reduceMul, Int.reduceToNat, Int.reduceEq, Int.reduceAdd, Int.reduceSub, Int.reduceNeg, Bool.not_true, Bool.not_false, decide_true, decide_false, reduceIte, Nat.reduceEqDiff, ite_true, ite_false, ops_ne, tw_0, m1, c1, c2, c2', c3, hz] at e1 e2 ⊢
        simp only [runF, mSeq, seqS, mAsg, mBin, mUn, mVar, mC, mRet, mNext, mIfS, mTest, mTruth, mAnd, mOr, mNot, mAndV, mOrV, mNotV, mCl, mCons, mNil, mCall, mDrop, mDrI, mDrNe, mDrIx, mDrLen, mDrSet, mDrPop, drL, isDr0, toS, fName, R.lift, bind_ok, bind_err, bind_bad, eAdd, eSub, eMul, eDiv, eMod, ePow, eNeg, eLt, eLe, eGt, eGe, eEqI, eNeI, eEqS, eEqB, eNeB, eIdxL, eIdxT, eBool, eAbs, Bool.false_eq_true, dList, dTup, if_true, if_false, if_pos, List.map_cons, List.map_nil, List.length_cons, List.length_nil, List.replicate, List.cons_append, List.nil_append, List.getElem?_cons_zero, List.getElem?_cons_succ, List.set_cons_zero, List.set_cons_succ, Nat.reduceAdd, Nat.reduceSub, Nat.reduceLeDiff, Nat.reduceLT, Nat.reduceMul, Int.reduceToNat, Int.reduceEq, Int.reduceAdd, Int.reduceSub, Int.reduceNeg, Bool.not_true, Bool.not_false, decide_true, decide_false, reduceIte, Nat.reduceEqDiff, ite_true, ite_false, e1, e2, hv, List.find?_cons, List.find?_nil, Sum.inr.injEq, Option.map_some, ops_ne]
      · rw [← e4, if_neg (fun z => hv (e3.mpr z))]
        simp only [m_law_result, mb_law_result, mOwnD, mPutD, mGetD, mPCons, mPNil, keysP, toKey, mergeP, putP, valP, List.foldl_cons, List.foldl_nil, List.any_cons, List.any_nil, List.find?_cons, List.find?_nil, Sum.inr.injEq, Option.map_some, Bool.or_false, Bool.or_true, Bool.true_or, Bool.false_or, dIntC, runF, mSeq, seqS, mAsg, mBin, mUn, mVar, mC, mRet, mNext, mIfS, mTest, mTruth, mAnd, mOr, mNot, mAndV, mOrV, mNotV, mCl, mCons, mNil, mCall, mDrop, mDrI, mDrNe, mDrIx, mDrLen, mDrSet, mDrPop, drL, isDr0, toS, fName, R.lift, bind_ok, bind_err, bind_bad, eAdd, eSub, eMul, eDiv, eMod, ePow, eNeg, eLt, eLe, eGt, eGe, eEqI, eNeI, eEqS, eEqB, eNeB, eIdxL, eIdxT, eBool, eAbs, Bool.false_eq_true, dList, dTup, if_true, if_false, if_pos, List.map_cons, List.map_nil, List.length_cons, List.length_nil, List.replicate, List.cons_append, List.nil_append, List.getElem?_cons_zero, List.getElem?_cons_succ, List.set_cons_zero, List.set_cons_succ, Nat.reduceAdd, Nat.reduceSub, Nat.reduceLeDiff, Nat.reduceLT, Nat.reduceMul, Int.reduceToNat, Int.reduceEq, Int.reduceAdd, Int.reduceSub, Int.reduceNeg, Bool.not_true, Bool.not_false, decide_true, decide_false, reduceIte, Nat.reduceEqDiff, ite_true, ite_false, ops_ne, tw_0, m1, c1, c2, c2', c3, hz] at e1 e2 ⊢
        simp only [runF, mSeq, seqS, mAsg, mBin, mUn, mVar, mC, mRet, mNext, mIfS, mTest, mTruth, mAnd, mOr, mNot, mAndV, mOrV, mNotV, mCl, mCons, mNil, mCall, mDrop, mDrI, mDrNe, mDrIx, mDrLen, mDrSet, mDrPop, drL, isDr0, toS, fName, R.lift, bind_ok, bind_err, bind_bad, eAdd, eSub, eMul, eDiv, eMod, ePow, eNeg, eLt, eLe, eGt, eGe, eEqI, eNeI, eEqS, eEqB, eNeB, eIdxL, eIdxT, eBool, eAbs, Bool.false_eq_true, dList, dTup, if_true, if_false, if_pos, List.map_cons, List.map_nil, List.length_cons, List.length_nil, List.replicate, List.cons_append, List.nil_append, List.getElem?_cons_zero, List.getElem?_cons_succ, List.set_cons_zero, List.set_cons_succ, Nat.reduceAdd, Nat.reduceSub, Nat.reduceLeDiff, Nat.reduceLT, Nat.reduceMul, Int.reduceToNat, Int.reduceEq, Int.reduceAdd, Int.reduceSub, Int.reduceNeg, Bool.not_true, Bool.not_false, decide_true, decide_false, reduceIte, Nat.reduceEqDiff, ite_true, ite_false, e1, e2, hv, List.find?_cons, List.find?_nil, Sum.inr.injEq, Option.map_some, ops_ne]
  · have hz : decide (r = 0) = false := decide_eq_false hr0
    have d1 : CDivG l r := divG hr0 (by omega) (by omega)
    have f := fdiv_b l0 l1 hr0
    have d3 : CMulG r (l.fdiv r) := mulG (by omega) (by omega) (by omega) (by omega)
    refine tri l r (fun c1 c2 c2' c3 => ?_) (fun c1 c2 c2' c3 => ?_) (fun c1 c2 c2' c3 => ?_)
    · rcases hv with hv | hv
      · rw [← e4, if_pos (e3.mp hv)]
        simp only [m_law_result, mb_law_result, mOwnD, mPutD, mGetD, mPCons, mPNil, keysP, toKey, mergeP, putP, valP, List.foldl_cons, List.foldl_nil, List.any_cons, List.any_nil, List.find?_cons, List.find?_nil, Sum.inr.injEq, Option.map_some, Bool.or_false, Bool.or_true, Bool.true_or, Bool.false_or, dIntC, runF, mSeq, seqS, mAsg, mBin, mUn, mVar, mC, mRet, mNext, mIfS, mTest, mTruth, mAnd, mOr, mNot, mAndV, mOrV, mNotV, mCl, mCons, mNil, mCall, mDrop, mDrI, mDrNe, mDrIx, mDrLen, mDrSet, mDrPop, drL, isDr0, toS, fName, R.lift, bind_ok, bind_err, bind_bad, eAdd, eSub, eMul, eDiv, eMod, ePow, eNeg, eLt, eLe, eGt, eGe, eEqI, eNeI, eEqS, eEqB, eNeB, eIdxL, eIdxT, eBool, eAbs, Bool.false_eq_true, dList, dTup, if_true, if_false, if_pos, List.map_cons, List.map_nil, List.length_cons, List.length_nil, List.replicate, List.cons_append, List.nil_append, List.getElem?_cons_zero, List.getElem?_cons_succ, List.set_cons_zero, List.set_cons_succ, Nat.reduceAdd, Nat.reduceSub, Nat.reduceLeDiff, Nat.reduceLT, Nat.reduceMul, Int.reduceToNat, Int.reduceEq, Int.reduceAdd, Int.reduceSub, Int.reduceNeg, Bool.not_true, Bool.not_false, decide_true, decide_false, reduceIte, Nat.reduceEqDiff, ite_true, ite_false, ops_ne, tw_0, m1, c1, c2, c2', c3, hz, d1, d3] at e1 e2 ⊢
        simp only [runF, mSeq, seqS, mAsg, mBin, mUn, mVar, mC, mRet, mNext, mIfS, mTest, mTruth, mAnd, mOr, mNot, mAndV, mOrV, mNotV, mCl, mCons, mNil, mCall, mDrop, mDrI, mDrNe, mDrIx, mDrLen, mDrSet, mDrPop, drL, isDr0, toS, fName, R.lift, bind_ok, bind_err, bind_bad, eAdd, eSub, eMul, eDiv, eMod, ePow, eNeg, eLt, eLe, eGt, eGe, eEqI, eNeI, eEqS, eEqB, eNeB, eIdxL, eIdxT, eBool, eAbs, Bool.false_eq_true, dList, dTup, if_true, if_false, if_pos, List.map_cons, List.map_nil, List.length_cons, List.length_nil, List.replicate, List.cons_append, List.nil_append, List.getElem?_cons_zero, List.getElem?_cons_succ, List.set_cons_zero, List.set_cons_succ, Nat.reduceAdd, Nat.reduceSub, Nat.reduceLeDiff, Nat.reduceLT, Nat.reduceMul, Int.reduceToNat, Int.reduceEq, Int.reduceAdd, Int.reduceSub, Int.reduceNeg, Bool.not_true, Bool.not_false, decide_true, decide_false, reduceIte, Nat.reduceEqDiff, ite_true, ite_false, e1, e2, hv, List.find?_cons, List.find?_nil, Sum.inr.injEq, Option.map_some, ops_ne]
      · rw [← e4, if_neg (fun z => hv (e3.mpr z))]
        simp only [m_law_result, mb_law_result, mOwnD, mPutD, mGetD, mPCons, mPNil, keysP, toKey, mergeP, putP, valP, List.foldl_cons, List.foldl_nil, List.any_cons, List.any_nil, List.find?_cons, List.find?_nil, Sum.inr.injEq, Option.map_some, Bool.or_false, Bool.or_true, Bool.true_or, Bool.false_or, dIntC, runF, mSeq, seqS, mAsg, mBin, mUn, mVar, mC, mRet, mNext, mIfS, mTest, mTruth, mAnd, mOr, mNot, mAndV, mOrV, mNotV, mCl, mCons, mNil, mCall, mDrop, mDrI, mDrNe, mDrIx, mDrLen, mDrSet, mDrPop, drL, isDr0, toS, fName, R.lift, bind_ok, bind_err, bind_bad, eAdd, eSub, eMul, eDiv, eMod, ePow, eNeg, eLt, eLe, eGt, eGe, eEqI, eNeI, eEqS, eEqB, eNeB, eIdxL, eIdxT, eBool, eAbs, Bool.false_eq_true, dList, dTup, if_true, if_false, if_pos, List.map_cons, List.map_nil, List.length_cons, List.length_nil, List.replicate, List.cons_append, List.nil_append, List.getElem?_cons_zero, List.getElem?_cons_succ, List.set_cons_zero, List.set_cons_succ, Nat.reduceAdd, Nat.reduceSub, Nat.reduceLeDiff, Nat.reduceLT, Nat.reduceMul, Int.reduceToNat, Int.reduceEq, Int.reduceAdd, Int.reduceSub, Int.reduceNeg, Bool.not_true, Bool.not_false, decide_true, decide_false, reduceIte, Nat.reduceEqDiff, ite_true, ite_false, ops_ne, tw_0, m1, c1, c2, c2', c3, hz, d1, d3] at e1 e2 ⊢
        simp only [runF, mSeq, seqS, mAsg, mBin, mUn, mVar, mC, mRet, mNext, mIfS, mTest, mTruth, mAnd, mOr, mNot, mAndV, mOrV, mNotV, mCl, mCons, mNil, mCall, mDrop, mDrI, mDrNe, mDrIx, mDrLen, mDrSet, mDrPop, drL, isDr0, toS, fName, R.lift, bind_ok, bind_err, bind_bad, eAdd, eSub, eMul, eDiv, eMod, ePow, eNeg, eLt, eLe, eGt, eGe, eEqI, eNeI, eEqS, eEqB, eNeB, eIdxL, eIdxT, eBool, eAbs, Bool.false_eq_true, dList, dTup, if_true, if_false, if_pos, List.map_cons, List.map_nil, List.length_cons, List.length_nil, List.replicate, List.cons_append, List.nil_append, List.getElem?_cons_zero, List.getElem?_cons_succ, List.set_cons_zero, List.set_cons_succ, Nat.reduceAdd, Nat.reduceSub, Nat.reduceLeDiff, Nat.reduceLT, Nat.reduceMul, Int.reduceToNat, Int.reduceEq, Int.reduceAdd, Int.reduceSub, Int.reduceNeg, Bool.not_true, Bool.not_false, decide_true, decide_false, reduceIte, Nat.reduceEqDiff, ite_true, ite_false, e1, e2, hv, List.find?_cons, List.find?_nil, Sum.inr.injEq, Option.map_some, ops_ne]
    · rcases hv with hv | hv
      · rw [← e4, if_pos (e3.mp hv)]
        simp only [m_law_result, mb_law_result, mOwnD, mPutD, mGetD, mPCons, mPNil, keysP, toKey, mergeP, putP, valP, List.foldl_cons, List.foldl_nil, List.any_cons, List.any_nil, List.find?_cons, List.find?_nil, Sum.inr.injEq, Option.map_some, Bool.or_false, Bool.or_true, Bool.true_or, Bool.false_or, dIntC, runF, mSeq, seqS, mAsg, mBin, mUn, mVar, mC, mRet, mNext, mIfS, mTest, mTruth, mAnd, mOr, mNot, mAndV, mOrV, mNotV, mCl, mCons, mNil, mCall, mDrop, mDrI, mDrNe, mDrIx, mDrLen, mDrSet, mDrPop, drL, isDr0, toS, fName, R.lift, bind_ok, bind_err, bind_bad, eAdd, eSub, eMul, eDiv, eMod, ePow, eNeg, eLt, eLe, eGt, eGe, eEqI, eNeI, eEqS, eEqB, eNeB, eIdxL, eIdxT, eBool, eAbs, Bool.false_eq_true, dList, dTup, if_true, if_false, if_pos, List.map_cons, List.map_nil, List.length_cons, List.length_nil, List.replicate, List.cons_append, List.nil_append, List.getElem?_cons_zero, List.getElem?_cons_succ, List.set_cons_zero, List.set_cons_succ, Nat.reduceAdd, Nat.reduceSub, Nat.reduceLeDiff, Nat.reduceLT, Nat.reduceMul, Int.reduceToNat, Int.reduceEq, Int.reduceAdd, Int.reduceSub, Int.reduceNeg, Bool.not_true, Bool.not_false, decide_true, decide_false, reduceIte, Nat.reduceEqDiff, ite_true, ite_false, ops_ne, tw_0, m1, c1, c2, c2', c3, hz, d1, d3] at e1 e2 ⊢
        simp only [runF, mSeq, seqS, mAsg, mBin, mUn, mVar, mC, mRet, mNext, mIfS, mTest, mTruth, mAnd, mOr, mNot, mAndV, mOrV, mNotV, mCl, mCons, mNil, mCall, mDrop, mDrI, mDrNe, mDrIx, mDrLen, mDrSet, mDrPop, drL, isDr0, toS, fName, R.lift, bind_ok, bind_err, bind_bad, eAdd, eSub, eMul, eDiv, eMod, ePow, eNeg, eLt, eLe, eGt, eGe, eEqI, eNeI, eEqS, eEqB, eNeB, eIdxL, eIdxT, eBool, eAbs, Bool.false_eq_true, dList, dTup, if_true, if_false, if_pos, List.map_cons, List.map_nil, List.length_cons, List.length_nil, List.replicate, List.cons_append, List.nil_append, List.getElem?_cons_zero, List.getElem?_cons_succ, List.set_cons_zero, List.set_cons_succ, Nat.reduceAdd, Nat.reduceSub, Nat.reduceLeDiff, Nat.reduceLT, Nat.reduceMul, Int.reduceToNat, Int.reduceEq, Int.reduceAdd, Int.reduceSub, Int.reduceNeg, Bool.not_true, Bool.not_false, decide_true, decide_false, reduceIte, Nat.reduceEqDiff, ite_true, ite_false, e1, e2, hv, List.find?_cons, List.find?_nil, Sum.inr.injEq, Option.map_some, ops_ne]
      · rw [← e4, if_neg (fun z => hv (e3.mpr z))]
        simp only [m_law_result, mb_law_result, mOwnD, mPutD, mGetD, mPCons, mPNil, keysP, toKey, mergeP, putP, valP, List.foldl_cons, List.foldl_nil, List.any_cons, List.any_nil, List.find?_cons, List.find?_nil, Sum.inr.injEq, Option.map_some, Bool.or_false, Bool.or_true, Bool.true_or, Bool.false_or, dIntC, runF, mSeq, seqS, mAsg, mBin, mUn, mVar, mC, mRet, mNext, mIfS, mTest, mTruth, mAnd, mOr, mNot, mAndV, mOrV, mNotV, mCl, mCons, mNil, mCall, mDrop, mDrI, mDrNe, mDrIx, mDrLen, mDrSet, mDrPop, drL, isDr0, toS, fName, R.lift, bind_ok, bind_err, bind_bad, eAdd, eSub, eMul, eDiv, eMod, ePow, eNeg, eLt, eLe, eGt, eGe, eEqI, eNeI, eEqS, eEqB, eNeB, eIdxL, eIdxT, eBool, eAbs, Bool.false_eq_true, dList, dTup, if_true, if_false, if_pos, List.map_cons, List.map_nil, List.length_cons, List.length_nil, List.replicate, List.cons_append, List.nil_append, List.getElem?_cons_zero, List.getElem?_cons_succ, List.set_cons_zero, List.set_cons_succ, Nat.reduceAdd, Nat.reduceSub, Nat.reduceLeDiff, Nat.reduceLT, Nat.reduceMul, Int.reduceToNat, Int.reduceEq, Int.reduceAdd, Int.reduceSub, Int.reduceNeg, Bool.not_true, Bool.not_false, decide_true, decide_false, reduceIte, Nat.reduceEqDiff, ite_true, ite_false, ops_ne, tw_0, m1, c1, c2, c2', c3, hz, d1, d3] at e1 e2 ⊢
        simp only [runF, mSeq, seqS, mAsg, mBin, mUn, mVar, mC, mRet, mNext, mIfS, mTest, mTruth, mAnd, mOr, mNot, mAndV, mOrV, mNotV, mCl, mCons, mNil, mCall, mDrop, mDrI, mDrNe, mDrIx, mDrLen, mDrSet, mDrPop, drL, isDr0, toS, fName, R.lift, bind_ok, bind_err, bind_bad, eAdd, eSub, eMul, eDiv, eMod, ePow, eNeg, eLt, eLe, eGt, eGe, eEqI, eNeI, eEqS, eEqB, eNeB, eIdxL, eIdxT, eBool, eAbs, Bool.false_eq_true, dList, dTup, if_true, if_false, if_pos, List.map_cons, List.map_nil, List.length_cons, List.length_nil, List.replicate, List.cons_append, List.nil_append, List.getElem?_cons_zero, List.getElem?_cons_succ, List.set_cons_zero, List.set_cons_succ, Nat.reduceAdd, Nat.reduceSub, Nat.reduceLeDiff, Nat.reduceLT, Nat.reduceMul, Int.reduceToNat, Int.reduceEq, Int.reduceAdd, Int.reduceSub, Int.reduceNeg, Bool.not_true, Bool.not_false, decide_true, decide_false, reduceIte, Nat.reduceEqDiff, ite_true, ite_false, e1, e2, hv, List.find?_cons, List.find?_nil, Sum.inr.injEq, Option.map_some, ops_ne]
    · rcases hv with hv | hv
      · rw [← e4, if_pos (e3.mp hv)]
        simp only [m_law_result, mb_law_result, mOwnD, mPutD, mGetD, mPCons, mPNil, keysP, toKey, mergeP, putP, valP, List.foldl_cons, List.foldl_nil, List.any_cons, List.any_nil, List.find?_cons, List.find?_nil, Sum.inr.injEq, Option.map_some, Bool.or_false, Bool.or_true, Bool.true_or, Bool.false_or, dIntC, runF, mSeq, seqS, mAsg, mBin, mUn, mVar, mC, mRet, mNext, mIfS, mTest, mTruth, mAnd, mOr, mNot, mAndV, mOrV, mNotV, mCl, mCons, mNil, mCall, mDrop, mDrI, mDrNe, mDrIx, mDrLen, mDrSet, mDrPop, drL, isDr0, toS, fName, R.lift, bind_ok, bind_err, bind_bad, eAdd, eSub, eMul, eDiv, eMod, ePow, eNeg, eLt, eLe, eGt, eGe, eEqI, eNeI, eEqS, eEqB, eNeB, eIdxL, eIdxT, eBool, eAbs, Bool.false_eq_true, dList, dTup, if_true, if_false, if_pos, List.map_cons, List.map_nil, List.length_cons, List.length_nil, List.replicate, List.cons_append, List.nil_append, List.getElem?_cons_zero, List.getElem?_cons_succ, List.set_cons_zero, List.set_cons_succ, Nat.reduceAdd, Nat.reduceSub, Nat.reduceLeDiff, Nat.reduceLT, Nat.reduceMul, Int.reduceToNat, Int.reduceEq, Int.reduceAdd, Int.reduceSub, Int.reduceNeg, Bool.not_true, Bool.not_false, decide_true, decide_false, reduceIte, Nat.reduceEqDiff, ite_true, ite_false, ops_ne, tw_0, m1, c1, c2, c2', c3, hz, d1, d3] at e1 e2 ⊢
        simp only [runF, mSeq, seqS, mAsg, mBin, mUn, mVar, mC, mRet, mNext, mIfS, mTest, mTruth, mAnd, mOr, mNot, mAndV, mOrV, mNotV, mCl, mCons, mNil, mCall, mDrop, mDrI, mDrNe, mDrIx, mDrLen, mDrSet, mDrPop, drL, isDr0, toS, fName, R.lift, bind_ok, bind_err, bind_bad, eAdd, eSub, eMul, eDiv, eMod, ePow, eNeg, eLt, eLe, eGt, eGe, eEqI, eNeI, eEqS, eEqB, eNeB, eIdxL, eIdxT, eBool, eAbs, Bool.false_eq_true, dList, dTup, if_true, if_false, if_pos, List.map_cons, List.map_nil, List.length_cons, List.length_nil, List.replicate, List.cons_append, List.nil_append, List.getElem?_cons_zero, List.getElem?_cons_succ, List.set_cons_zero, List.set_cons_succ, Nat.reduceAdd, Nat.reduceSub, Nat.reduceLeDiff, Nat.reduceLT, Nat.reduceMul, Int.reduceToNat, Int.reduceEq, Int.reduceAdd, Int.reduceSub, Int.reduceNeg, Bool.not_true, Bool.not_false, decide_true, decide_false, reduceIte, Nat.reduceEqDiff, ite_true, ite_false, e1, e2, hv, List.find?_cons, List.find?_nil, Sum.inr.injEq, Option.map_some, ops_ne]
      · rw [← e4, if_neg (fun z => hv (e3.mpr z))]
        simp only [m_law_result, mb_law_result, mOwnD, mPutD, mGetD, mPCons, mPNil, keysP, toKey, mergeP, putP, valP, List.foldl_cons, List.foldl_nil, List.any_cons, List.any_nil, List.find?_cons, List.find?_nil, Sum.inr.injEq, Option.map_some, Bool.or_false, Bool.or_true, Bool.true_or, Bool.false_or, dIntC, runF, mSeq, seqS, mAsg, mBin, mUn, mVar, mC, mRet, mNext, mIfS, mTest, mTruth, mAnd, mOr, mNot, mAndV, mOrV, mNotV, mCl, mCons, mNil, mCall, mDrop, mDrI, mDrNe, mDrIx, mDrLen, mDrSet, mDrPop, drL, isDr0, toS, fName, R.lift, bind_ok, bind_err, bind_bad, eAdd, eSub, eMul, eDiv, eMod, ePow, eNeg, eLt, eLe, eGt, eGe, eEqI, eNeI, eEqS, eEqB, eNeB, eIdxL, eIdxT, eBool, eAbs, Bool.false_eq_true, dList, dTup, if_true, if_false, if_pos, List.map_cons, List.map_nil, List.length_cons, List.length_nil, List.replicate, List.cons_append, List.nil_append, List.getElem?_cons_zero, List.getElem?_cons_succ, List.set_cons_zero, List.set_cons_succ, Nat.reduceAdd, Nat.reduceSub, Nat.reduceLeDiff, Nat.reduceLT, Nat.reduceMul, Int.reduceToNat, Int.reduceEq, Int.reduceAdd, Int.reduceSub, Int.reduceNeg, Bool.not_true, Bool.not_false, decide_true, decide_false, reduceIte, Nat.reduceEqDiff, ite_true, ite_false, ops_ne, tw_0, m1, c1, c2, c2', c3, hz, d1, d3] at e1 e2 ⊢
        simp only [runF, mSeq, seqS, mAsg, mBin, mUn, mVar, mC, mRet, mNext, mIfS, mTest, mTruth, mAnd, mOr, mNot, mAndV, mOrV, mNotV, mCl, mCons, mNil, mCall, mDrop, mDrI, mDrNe, mDrIx, mDrLen, mDrSet, mDrPop, drL, isDr0, toS, fName, R.lift, bind_ok, bind_err, bind_bad, eAdd, eSub, eMul, eDiv, eMod, ePow, eNeg, eLt, eLe, eGt, eGe, eEqI, eNeI, eEqS, eEqB, eNeB, eIdxL, eIdxT, eBool, eAbs, Bool.false_eq_true, dList, dTup, if_true, if_false, if_pos, List.map_cons, List.map_nil, List.length_cons, List.length_nil, List.replicate, List.cons_append, List.nil_append, List.getElem?_cons_zero, List.getElem?_cons_succ, List.set_cons_zero, List.set_cons_succ, Nat.reduceAdd, Nat.reduceSub, Nat.reduceLeDiff, Nat.reduceLT, Nat.reduceMul, Int.reduceToNat, Int.reduceEq, Int.reduceAdd, Int.reduceSub, Int.reduceNeg, Bool.not_true, Bool.not_false, decide_true, decide_false, reduceIte, Nat.reduceEqDiff, ite_true, ite_false, e1, e2, hv, List.find?_cons, List.find?_nil, Sum.inr.injEq, Option.map_some, ops_ne]
theorem in_1 : dNotIn (.str "-") k_OPERATORS = some (.bl false) := rfl
theorem tw_1 : dIn (.str "-") (.tup [.str "//", .str "mod"]) = some (.bl false) := rfl
theorem ro_1 (A : Ad) {l r : Int} {s : Dr} (l0 : -(10 ^ 61) < l) (l1 : l < 10 ^ 61) (r0 : -(10 ^ 61) < r) (r1 : r < 10 ^ 61) : m_result_of A [.str "-", .int l, .int r] s = .ok (.int (l - r)) s := by
  have m1 : CMulG l r := mulG (by omega) (by omega) (by omega) (by omega)
  simp only [m_result_of, mb_result_of, runF, mSeq, seqS, mAsg, mBin, mUn, mVar, mC, mRet, mNext, mIfS, mTest, mTruth, mAnd, mOr, mNot, mAndV, mOrV, mNotV, mCl, mCons, mNil, mCall, mDrop, mDrI, mDrNe, mDrIx, mDrLen, mDrSet, mDrPop, drL, isDr0, toS, fName, R.lift, bind_ok, bind_err, bind_bad, eAdd, eSub, eMul, eDiv, eMod, ePow, eNeg, eLt, eLe, eGt, eGe, eEqI, eNeI, eEqS, eEqB, eNeB, eIdxL, eIdxT, eBool, eAbs, Bool.false_eq_true, dList, dTup, if_true, if_false, if_pos, List.map_cons, List.map_nil, List.length_cons, List.length_nil, List.replicate, List.cons_append, List.nil_append, List.getElem?_cons_zero, List.getElem?_cons_succ, List.set_cons_zero, List.set_cons_succ, Nat.reduceAdd, Nat.reduceSub, Nat.reduceLeDiff, Nat.reduceLT, Nat.reduceMul, Int.reduceToNat, Int.reduceEq, Int.reduceAdd, Int.reduceSub, Int.reduceNeg, Bool.not_true, Bool.not_false, decide_true, decide_false, reduceIte, Nat.reduceEqDiff, ite_true, ite_false, ops_ne, dMin2, dMax2, dI2, dIntC, m1]
theorem lr_1 (A : Ad) {l r : Int} {s : Dr} (l0 : -(10 ^ 61) < l) (l1 : l < 10 ^ 61) (r0 : -(10 ^ 61) < r) (r1 : r < 10 ^ 61) (v0 : -(10 ^ 150) < (l - r)) (v1 : (l - r) < 10 ^ 150) : m_law_result A [.str "-", .int l, .int r] s = .ok (dv (l - r)) s := by
  have m1 : CMulG l r := mulG (by omega) (by omega) (by omega) (by omega)
  obtain ⟨a0, a1⟩ := av_b v0 v1
  obtain ⟨L, e1, e2, e3⟩ := lenStr a0 a1
  unfold av at e1 e2
  have e4 : (if 10 ^ 60 ≤ av (l - r) then D.str "overflow" else D.int (l - r)) = dv (l - r) := rfl
  have hv : 60 < L ∨ ¬ 60 < L := Decidable.em _
  by_cases hr0 : r = 0
  · have hz : decide (r = 0) = true := decide_eq_true hr0
    refine tri l r (fun c1 c2 c2' c3 => ?_) (fun c1 c2 c2' c3 => ?_) (fun c1 c2 c2' c3 => ?_)
    · rcases hv with hv | hv
      · rw [← e4, if_pos (e3.mp hv)]
        simp only [m_law_result, mb_law_result, mOwnD, mPutD, mGetD, mPCons, mPNil, keysP, toKey, mergeP, putP, valP, List.foldl_cons, List.foldl_nil, List.any_cons, List.any_nil, List.find?_cons, List.find?_nil, Sum.inr.injEq, Option.map_some, Bool.or_false, Bool.or_true, Bool.true_or, Bool.false_or, dIntC, runF, mSeq, seqS, mAsg, mBin, mUn, mVar, mC, mRet, mNext, mIfS, mTest, mTruth, mAnd, mOr, mNot, mAndV, mOrV, mNotV, mCl, mCons, mNil, mCall, mDrop, mDrI, mDrNe, mDrIx, mDrLen, mDrSet, mDrPop, drL, isDr0, toS, fName, R.lift, bind_ok, bind_err, bind_bad, eAdd, eSub, eMul, eDiv, eMod, ePow, eNeg, eLt, eLe, eGt, eGe, eEqI, eNeI, eEqS, eEqB, eNeB, eIdxL, eIdxT, eBool, eAbs, Bool.false_eq_true, dList, dTup, if_true, if_false, if_pos, List.map_cons, List.map_nil, List.length_cons, List.length_nil, List.replicate, List.cons_append, List.nil_append, List.getElem?_cons_zero, List.getElem?_cons_succ, List.set_cons_zero, List.set_cons_succ, Nat.reduceAdd, Nat.reduceSub, Nat.reduceLeDiff, Nat.reduceLT, Nat.reduceMul, Int.reduceToNat, Int.reduceEq, Int.reduceAdd, Int.reduceSub, Int.reduceNeg, Bool.not_true, Bool.not_false, decide_true, decide_false, reduceIte, Nat.reduceEqDiff, ite_true, ite_false, ops_ne, tw_1, m1, c1, c2, c2', c3, hz] at e1 e2 ⊢
        simp only [runF, mSeq, seqS, mAsg, mBin, mUn, mVar, mC, mRet, mNext, mIfS, mTest, mTruth, mAnd, mOr, mNot, mAndV, mOrV, mNotV, mCl, mCons, mNil, mCall, mDrop, mDrI, mDrNe, mDrIx, mDrLen, mDrSet, mDrPop, drL, isDr0, toS, fName, R.lift, bind_ok, bind_err, bind_bad, eAdd, eSub, eMul, eDiv, eMod, ePow, eNeg, eLt, eLe, eGt, eGe, eEqI, eNeI, eEqS, eEqB, eNeB, eIdxL, eIdxT, eBool, eAbs, Bool.false_eq_true, dList, dTup, if_true, if_false, if_pos, List.map_cons, List.map_nil, List.length_cons, List.length_nil, List.replicate, List.cons_append, List.nil_append, List.getElem?_cons_zero, List.getElem?_cons_succ, List.set_cons_zero, List.set_cons_succ, Nat.reduceAdd, Nat.reduceSub, Nat.reduceLeDiff, Nat.reduceLT, Nat.reduceMul, Int.reduceToNat, Int.reduceEq, Int.reduceAdd, Int.reduceSub, Int.reduceNeg, Bool.not_true, Bool.not_false, decide_true, decide_false, reduceIte, Nat.reduceEqDiff, ite_true, ite_false, e1, e2, hv, List.find?_cons, List.find?_nil, Sum.inr.injEq, Option.map_some, ops_ne]
      · rw [← e4, if_neg (fun z => hv (e3.mpr z))]
        simp only [m_law_result, mb_law_result, mOwnD, mPutD, mGetD, mPCons, mPNil, keysP, toKey, mergeP, putP, valP, List.foldl_cons, List.foldl_nil, List.any_cons, List.any_nil, List.find?_cons, List.find?_nil, Sum.inr.injEq, Option.map_some, Bool.or_false, Bool.or_true, Bool.true_or, Bool.false_or, dIntC, runF, mSeq, seqS, mAsg, mBin, mUn, mVar, mC, mRet, mNext, mIfS, mTest, mTruth, mAnd, mOr, mNot, mAndV, mOrV, mNotV, mCl, mCons, mNil, mCall, mDrop, mDrI, mDrNe, mDrIx, mDrLen, mDrSet, mDrPop, drL, isDr0, toS, fName, R.lift, bind_ok, bind_err, bind_bad, eAdd, eSub, eMul, eDiv, eMod, ePow, eNeg, eLt, eLe, eGt, eGe, eEqI, eNeI, eEqS, eEqB, eNeB, eIdxL, eIdxT, eBool, eAbs, Bool.false_eq_true, dList, dTup, if_true, if_false, if_pos, List.map_cons, List.map_nil, List.length_cons, List.length_nil, List.replicate, List.cons_append, List.nil_append, List.getElem?_cons_zero, List.getElem?_cons_succ, List.set_cons_zero, List.set_cons_succ, Nat.reduceAdd, Nat.reduceSub, Nat.reduceLeDiff, Nat.reduceLT, Nat.reduceMul, Int.reduceToNat, Int.reduceEq, Int.reduceAdd, Int.reduceSub, Int.reduceNeg, Bool.not_true, Bool.not_false, decide_true, decide_false, reduceIte, Nat.reduceEqDiff, ite_true, ite_false, ops_ne, tw_1, m1, c1, c2, c2', c3, hz] at e1 e2 ⊢
        simp only [runF, mSeq, seqS, mAsg, mBin, mUn, mVar, mC, mRet, mNext, mIfS, mTest, mTruth, mAnd, mOr, mNot, mAndV, mOrV, mNotV, mCl, mCons, mNil, mCall, mDrop, mDrI, mDrNe, mDrIx, mDrLen, mDrSet, mDrPop, drL, isDr0, toS, fName, R.lift, bind_ok, bind_err, bind_bad, eAdd, eSub, eMul, eDiv, eMod, ePow, eNeg, eLt, eLe, eGt, eGe, eEqI, eNeI, eEqS, eEqB, eNeB, eIdxL, eIdxT, eBool, eAbs, Bool.false_eq_true, dList, dTup, if_true, if_false, if_pos, List.map_cons, List.map_nil, List.length_cons, List.length_nil, List.replicate, List.cons_append, List.nil_append, List.getElem?_cons_zero, List.getElem?_cons_succ, List.set_cons_zero, List.set_cons_succ, Nat.reduceAdd, Nat.reduceSub, Nat.reduceLeDiff, Nat.reduceLT, Nat.reduceMul, Int.reduceToNat, Int.reduceEq, Int.reduceAdd, Int.reduceSub, Int.reduceNeg, Bool.not_true, Bool.not_false, decide_true, decide_false, reduceIte, Nat.reduceEqDiff, ite_true, ite_false, e1, e2, hv, List.find?_cons, List.find?_nil, Sum.inr.injEq, Option.map_some, ops_ne]
    · rcases hv with hv | hv
      · rw [← e4, if_pos (e3.mp hv)]
        simp only [m_law_result, mb_law_result, mOwnD, mPutD, mGetD, mPCons, mPNil, keysP, toKey, mergeP, putP, valP, List.foldl_cons, List.foldl_nil, List.any_cons, List.any_nil, List.find?_cons, List.find?_nil, Sum.inr.injEq, Option.map_some, Bool.or_false, Bool.or_true, Bool.true_or, Bool.false_or, dIntC, runF, mSeq, seqS, mAsg, mBin, mUn, mVar, mC, mRet, mNext, mIfS, mTest, mTruth, mAnd, mOr, mNot, mAndV, mOrV, mNotV, mCl, mCons, mNil, mCall, mDrop, mDrI, mDrNe, mDrIx, mDrLen, mDrSet, mDrPop, drL, isDr0, toS, fName, R.lift, bind_ok, bind_err, bind_bad, eAdd, eSub, eMul, eDiv, eMod, ePow, eNeg, eLt, eLe, eGt, eGe, eEqI, eNeI, eEqS, eEqB, eNeB, eIdxL, eIdxT, eBool, eAbs, Bool.false_eq_true, dList, dTup, if_true, if_false, if_pos, List.map_cons, List.map_nil, List.length_cons, List.length_nil, List.replicate, List.cons_append, List.nil_append, List.getElem?_cons_zero, List.getElem?_cons_succ, List.set_cons_zero, List.set_cons_succ, Nat.reduceAdd, Nat.reduceSub, Nat.reduceLeDiff, Nat.reduceLT, Nat.reduceMul, Int.reduceToNat, Int.reduceEq, Int.reduceAdd, Int.reduceSub, Int.reduceNeg, Bool.not_true, Bool.not_false, decide_true, decide_false, reduceIte, Nat.reduceEqDiff, ite_true, ite_false, ops_ne, tw_1, m1, c1, c2, c2', c3, hz] at e1 e2 ⊢
        simp only [runF, mSeq, seqS, mAsg, mBin, mUn, mVar, mC, mRet, mNext, mIfS, mTest, mTruth, mAnd, mOr, mNot, mAndV, mOrV, mNotV, mCl, mCons, mNil, mCall, mDrop, mDrI, mDrNe, mDrIx, mDrLen, mDrSet, mDrPop, drL, isDr0, toS, fName, R.lift, bind_ok, bind_err, bind_bad, eAdd, eSub, eMul, eDiv, eMod, ePow, eNeg, eLt, eLe, eGt, eGe, eEqI, eNeI, eEqS, eEqB, eNeB, eIdxL, eIdxT, eBool, eAbs, Bool.false_eq_true, dList, dTup, if_true, if_false, if_pos, List.map_cons, List.map_nil, List.length_cons, List.length_nil, List.replicate, List.cons_append, List.nil_append, List.getElem?_cons_zero, List.getElem?_cons_succ, List.set_cons_zero, List.set_cons_succ, Nat.reduceAdd, Nat.reduceSub, Nat.reduceLeDiff, Nat.reduceLT, Nat.reduceMul, Int.reduceToNat, Int.reduceEq, Int.reduceAdd, Int.reduceSub, Int.reduceNeg, Bool.not_true, Bool.not_false, decide_true, decide_false, reduceIte, Nat.reduceEqDiff, ite_true, ite_false, e1, e2, hv, List.find?_cons, List.find?_nil, Sum.inr.injEq, Option.map_some, ops_ne]
      · rw [← e4, if_neg (fun z => hv (e3.mpr z))]
        simp only [m_law_result, mb_law_result, mOwnD, mPutD, mGetD, mPCons, mPNil, keysP, toKey, mergeP, putP, valP, List.foldl_cons, List.foldl_nil, List.any_cons, List.any_nil, List.find?_cons, List.find?_nil, Sum.inr.injEq, Option.map_some, Bool.or_false, Bool.or_true, Bool.true_or, Bool.false_or, dIntC, runF, mSeq, seqS, mAsg, mBin, mUn, mVar, mC, mRet, mNext, mIfS, mTest, mTruth, mAnd, mOr, mNot, mAndV, mOrV, mNotV, mCl, mCons, mNil, mCall, mDrop, mDrI, mDrNe, mDrIx, mDrLen, mDrSet, mDrPop, drL, isDr0, toS, fName, R.lift, bind_ok, bind_err, bind_bad, eAdd, eSub, eMul, eDiv, eMod, ePow, eNeg, eLt, eLe, eGt, eGe, eEqI, eNeI, eEqS, eEqB, eNeB, eIdxL, eIdxT, eBool, eAbs, Bool.false_eq_true, dList, dTup, if_true, if_false, if_pos, List.map_cons, List.map_nil, List.length_cons, List.length_nil, List.replicate, List.cons_append, List.nil_append, List.getElem?_cons_zero, List.getElem?_cons_succ, List.set_cons_zero, List.set_cons_succ, Nat.reduceAdd, Nat.reduceSub, Nat.reduceLeDiff, Nat.reduceLT, Nat.reduceMul, Int.reduceToNat, Int.reduceEq, Int.reduceAdd, Int.reduceSub, Int.reduceNeg, Bool.not_true, Bool.not_false, decide_true, decide_false, reduceIte, Nat.reduceEqDiff, ite_true, ite_false, ops_ne, tw_1, m1, c1, c2, c2', c3, hz] at e1 e2 ⊢
        simp only [runF, mSeq, seqS, mAsg, mBin, mUn, mVar, mC, mRet, mNext, mIfS, mTest, mTruth, mAnd, mOr, mNot, mAndV, mOrV, mNotV, mCl, mCons, mNil, mCall, mDrop, mDrI, mDrNe, mDrIx, mDrLen, mDrSet, mDrPop, drL, isDr0, toS, fName, R.lift, bind_ok, bind_err, bind_bad, eAdd, eSub, eMul, eDiv, eMod, ePow, eNeg, eLt, eLe, eGt, eGe, eEqI, eNeI, eEqS, eEqB, eNeB, eIdxL, eIdxT, eBool, eAbs, Bool.false_eq_true, dList, dTup, if_true, if_false, if_pos, List.map_cons, List.map_nil, List.length_cons, List.length_nil, List.replicate, List.cons_append, List.nil_append, List.getElem?_cons_zero, List.getElem?_cons_succ, List.set_cons_zero, List.set_cons_succ, Nat.reduceAdd, Nat.reduceSub, Nat.reduceLeDiff, Nat.reduceLT, Nat.reduceMul, Int.reduceToNat, Int.reduceEq, Int.reduceAdd, Int.reduceSub, Int.reduceNeg, Bool.not_true, Bool.not_false, decide_true, decide_false, reduceIte, Nat.reduceEqDiff, ite_true, ite_false, e1, e2, hv, List.find?_cons, List.find?_nil, Sum.inr.injEq, Option.map_some, ops_ne]
    · rcases hv with hv | hv
      · rw [← e4, if_pos (e3.mp hv)]
        simp only [m_law_result, mb_law_result, mOwnD, mPutD, mGetD, mPCons, mPNil, keysP, toKey, mergeP, putP, valP, List.foldl_cons, List.foldl_nil, List.any_cons, List.any_nil, List.find?_cons, List.find?_nil, Sum.inr.injEq, Option.map_some, Bool.or_false, Bool.or_true, Bool.true_or, Bool.false_or, dIntC, runF, mSeq, seqS, mAsg, mBin, mUn, mVar, mC, mRet, mNext, mIfS, mTest, mTruth, mAnd, mOr, mNot, mAndV, mOrV, mNotV, mCl, mCons, mNil, mCall, mDrop, mDrI, mDrNe, mDrIx, mDrLen, mDrSet, mDrPop, drL, isDr0, toS, fName, R.lift, bind_ok, bind_err, bind_bad, eAdd, eSub, eMul, eDiv, eMod, ePow, eNeg, eLt, eLe, eGt, eGe, eEqI, eNeI, eEqS, eEqB, eNeB, eIdxL, eIdxT, eBool, eAbs, Bool.false_eq_true, dList, dTup, if_true, if_false, if_pos, List.map_cons, List.map_nil, List.length_cons, List.length_nil, List.replicate, List.cons_append, List.nil_append, List.getElem?_cons_zero, List.getElem?_cons_succ, List.set_cons_zero, List.set_cons_succ, Nat.reduceAdd, Nat.reduceSub, Nat.reduceLeDiff, Nat.reduceLT, Nat.reduceMul, Int.reduceToNat, Int.reduceEq, Int.reduceAdd, Int.reduceSub, Int.reduceNeg, Bool.not_true, Bool.not_false, decide_true, decide_false, reduceIte, Nat.reduceEqDiff, ite_true, ite_false, ops_ne, tw_1, m1, c1, c2, c2', c3, hz] at e1 e2 ⊢
        simp only [runF, mSeq, seqS, mAsg, mBin, mUn, mVar, mC, mRet, mNext, mIfS, mTest, mTruth, mAnd, mOr, mNot, mAndV, mOrV, mNotV, mCl, mCons, mNil, mCall, mDrop, mDrI, mDrNe, mDrIx, mDrLen, mDrSet, mDrPop, drL, isDr0, toS, fName, R.lift, bind_ok, bind_err, bind_bad, eAdd, eSub, eMul, eDiv, eMod, ePow, eNeg, eLt, eLe, eGt, eGe, eEqI, eNeI, eEqS, eEqB, eNeB, eIdxL, eIdxT, eBool, eAbs, Bool.false_eq_true, dList, dTup, if_true, if_false, if_pos, List.map_cons, List.map_nil, List.length_cons, List.length_nil, List.replicate, List.cons_append, List.nil_append, List.getElem?_cons_zero, List.getElem?_cons_succ, List.set_cons_zero, List.set_cons_succ, Nat.reduceAdd, Nat.reduceSub, Nat.reduceLeDiff, Nat.reduceLT, Nat.reduceMul, Int.reduceToNat, Int.reduceEq, Int.reduceAdd, Int.reduceSub, Int.reduceNeg, Bool.not_true, Bool.not_false, decide_true, decide_false, reduceIte, Nat.reduceEqDiff, ite_true, ite_false, e1, e2, hv, List.find?_cons, List.find?_nil, Sum.inr.injEq, Option.map_some, ops_ne]
      · rw [← e4, if_neg (fun z => hv (e3.mpr z))]
        simp only [m_law_result, mb_law_result, mOwnD, mPutD, mGetD, mPCons, mPNil, keysP, toKey, mergeP, putP, valP, List.foldl_cons, List.foldl_nil, List.any_cons, List.any_nil, List.find?_cons, List.find?_nil, Sum.inr.injEq, Option.map_some, Bool.or_false, Bool.or_true, Bool.true_or, Bool.false_or, dIntC, runF, mSeq, seqS, mAsg, mBin, mUn, mVar, mC, mRet, mNext, mIfS, mTest, mTruth, mAnd, mOr, mNot, mAndV, mOrV, mNotV, mCl, mCons, mNil, mCall, mDrop, mDrI, mDrNe, mDrIx, mDrLen, mDrSet, mDrPop, drL, isDr0, toS, fName, R.lift, bind_ok, bind_err, bind_bad, eAdd, eSub, eMul, eDiv, eMod, ePow, eNeg, eLt, eLe, eGt, eGe, eEqI, eNeI, eEqS, eEqB, eNeB, eIdxL, eIdxT, eBool, eAbs, Bool.false_eq_true, dList, dTup, if_true, if_false, if_pos, List.map_cons, List.map_nil, List.length_cons, List.length_nil, List.replicate, List.cons_append, List.nil_append, List.getElem?_cons_zero, List.getElem?_cons_succ, List.set_cons_zero, List.set_cons_succ, Nat.reduceAdd, Nat.reduceSub, Nat.reduceLeDiff, Nat.reduceLT, Nat.reduceMul, Int.reduceToNat, Int.reduceEq, Int.reduceAdd, Int.reduceSub, Int.reduceNeg, Bool.not_true, Bool.not_false, decide_true, decide_false, reduceIte, Nat.reduceEqDiff, ite_true, ite_false, ops_ne, tw_1, m1, c1, c2, c2', c3, hz] at e1 e2 ⊢
        simp only [runF, mSeq, seqS, mAsg, mBin, mUn, mVar, mC, mRet, mNext, mIfS, mTest, mTruth, mAnd, mOr, mNot, mAndV, mOrV, mNotV, mCl, mCons, mNil, mCall, mDrop, mDrI, mDrNe, mDrIx, mDrLen, mDrSet, mDrPop, drL, isDr0, toS, fName, R.lift, bind_ok, bind_err, bind_bad, eAdd, eSub, eMul, eDiv, eMod, ePow, eNeg, eLt, eLe, eGt, eGe, eEqI, eNeI, eEqS, eEqB, eNeB, eIdxL, eIdxT, eBool, eAbs, Bool.false_eq_true, dList, dTup, if_true, if_false, if_pos, List.map_cons, List.map_nil, List.length_cons, List.length_nil, List.replicate, List.cons_append, List.nil_append, List.getElem?_cons_zero, List.getElem?_cons_succ, List.set_cons_zero, List.set_cons_succ, Nat.reduceAdd, Nat.reduceSub, Nat.reduceLeDiff, Nat.reduceLT, Nat.reduceMul, Int.reduceToNat, Int.reduceEq, Int.reduceAdd, Int.reduceSub, Int.reduceNeg, Bool.not_true, Bool.not_false, decide_true, decide_false, reduceIte, Nat.reduceEqDiff, ite_true, ite_false, e1, e2, hv, List.find?_cons, List.find?_nil, Sum.inr.injEq, Option.map_some, ops_ne]
  · have hz : decide (r = 0) = false := decide_eq_false hr0
    have d1 : CDivG l r := divG hr0 (by omega) (by omega)
    have f := fdiv_b l0 l1 hr0
    have d3 : CMulG r (l.fdiv r) := mulG (by omega) (by omega) (by omega) (by omega)
    refine tri l r (fun c1 c2 c2' c3 => ?_) (fun c1 c2 c2' c3 => ?_) (fun c1 c2 c2' c3 => ?_)
    · rcases hv with hv | hv
      · rw [← e4, if_pos (e3.mp hv)]
        simp only [m_law_result, mb_law_result, mOwnD, mPutD, mGetD, mPCons, mPNil, keysP, toKey, mergeP, putP, valP, List.foldl_cons, List.foldl_nil, List.any_cons, List.any_nil, List.find?_cons, List.find?_nil, Sum.inr.injEq, Option.map_some, Bool.or_false, Bool.or_true, Bool.true_or, Bool.false_or, dIntC, runF, mSeq, seqS, mAsg, mBin, mUn, mVar, mC, mRet, mNext, mIfS, mTest, mTruth, mAnd, mOr, mNot, mAndV, mOrV, mNotV, mCl, mCons, mNil, mCall, mDrop, mDrI, mDrNe, mDrIx, mDrLen, mDrSet, mDrPop, drL, isDr0, toS, fName, R.lift, bind_ok, bind_err, bind_bad, eAdd, eSub, eMul, eDiv, eMod, ePow, eNeg, eLt, eLe, eGt, eGe, eEqI, eNeI, eEqS, eEqB, eNeB, eIdxL, eIdxT, eBool, eAbs, Bool.false_eq_true, dList, dTup, if_true, if_false, if_pos, List.map_cons, List.map_nil, List.length_cons, List.length_nil, List.replicate, List.cons_append, List.nil_append, List.getElem?_cons_zero, List.getElem?_cons_succ, List.set_cons_zero, List.set_cons_succ, Nat.reduceAdd, Nat.reduceSub, Nat.reduceLeDiff, Nat.reduceLT, Nat.reduceMul, Int.reduceToNat, Int.reduceEq, Int.reduceAdd, Int.reduceSub, Int.reduceNeg, Bool.not_true, Bool.not_false, decide_true, decide_false, reduceIte, Nat.reduceEqDiff, ite_true, ite_false, ops_ne, tw_1, m1, c1, c2, c2', c3, hz, d1, d3] at e1 e2 ⊢
        simp only [runF, mSeq, seqS, mAsg, mBin, mUn, mVar, mC, mRet, mNext, mIfS, mTest, mTruth, mAnd, mOr, mNot, mAndV, mOrV, mNotV, mCl, mCons, mNil, mCall, mDrop, mDrI, mDrNe, mDrIx, mDrLen, mDrSet, mDrPop, drL, isDr0, toS, fName, R.lift, bind_ok, bind_err, bind_bad, eAdd, eSub, eMul, eDiv, eMod, ePow, eNeg, eLt, eLe, eGt, eGe, eEqI, eNeI, eEqS, eEqB, eNeB, eIdxL, eIdxT, eBool, eAbs, Bool.false_eq_true, dList, dTup, if_true, if_false, if_pos, List.map_cons, List.map_nil, List.length_cons, List.length_nil, List.replicate, List.cons_append, List.nil_append, List.getElem?_cons_zero, List.getElem?_cons_succ, List.set_cons_zero, List.set_cons_succ, Nat.reduceAdd, Nat.reduceSub, Nat.reduceLeDiff, Nat.reduceLT, Nat.reduceMul, Int.reduceToNat, Int.reduceEq, Int.reduceAdd, Int.reduceSub, Int.reduceNeg, Bool.not_true, Bool.not_false, decide_true, decide_false, reduceIte, Nat.reduceEqDiff, ite_true, ite_false, e1, e2, hv, List.find?_cons, List.find?_nil, Sum.inr.injEq, Option.map_some, ops_ne]
      · rw [← e4, if_neg (fun z => hv (e3.mpr z))]
        simp only [m_law_result, mb_law_result, mOwnD, mPutD, mGetD, mPCons, mPNil, keysP, toKey, mergeP, putP, valP, List.foldl_cons, List.foldl_nil, List.any_cons, List.any_nil, List.find?_cons, List.find?_nil, Sum.inr.injEq, Option.map_some, Bool.or_false, Bool.or_true, Bool.true_or, Bool.false_or, dIntC, runF, mSeq, seqS, mAsg, mBin, mUn, mVar, mC, mRet, mNext, mIfS, mTest, mTruth, mAnd, mOr, mNot, mAndV, mOrV, mNotV, mCl, mCons, mNil, mCall, mDrop, mDrI, mDrNe, mDrIx, mDrLen, mDrSet, mDrPop, drL, isDr0, toS, fName, R.lift, bind_ok, bind_err, bind_bad, eAdd, eSub, eMul, eDiv, eMod, ePow, eNeg, eLt, eLe, eGt, eGe, eEqI, eNeI, eEqS, eEqB, eNeB, eIdxL, eIdxT, eBool, eAbs, Bool.false_eq_true, dList, dTup, if_true, if_false, if_pos, List.map_cons, List.map_nil, List.length_cons, List.length_nil, List.replicate, List.cons_append, List.nil_append, List.getElem?_cons_zero, List.getElem?_cons_succ, List.set_cons_zero, List.set_cons_succ, Nat.reduceAdd, Nat.reduceSub, Nat.reduceLeDiff, Nat.reduceLT, Nat.reduceMul, Int.reduceToNat, Int.reduceEq, Int.reduceAdd, Int.reduceSub, Int.reduceNeg, Bool.not_true, Bool.not_false, decide_true, decide_false, reduceIte, Nat.reduceEqDiff, ite_true, ite_false, ops_ne, tw_1, m1, c1, c2, c2', c3, hz, d1, d3] at e1 e2 ⊢
        simp only [runF, mSeq, seqS, mAsg, mBin, mUn, mVar, mC, mRet, mNext, mIfS, mTest, mTruth, mAnd, mOr, mNot, mAndV, mOrV, mNotV, mCl, mCons, mNil, mCall, mDrop, mDrI, mDrNe, mDrIx, mDrLen, mDrSet, mDrPop, drL, isDr0, toS, fName, R.lift, bind_ok, bind_err, bind_bad, eAdd, eSub, eMul, eDiv, eMod, ePow, eNeg, eLt, eLe, eGt, eGe, eEqI, eNeI, eEqS, eEqB, eNeB, eIdxL, eIdxT, eBool, eAbs, Bool.false_eq_true, dList, dTup, if_true, if_false, if_pos, List.map_cons, List.map_nil, List.length_cons, List.length_nil, List.replicate, List.cons_append, List.nil_append, List.getElem?_cons_zero, List.getElem?_cons_succ, List.set_cons_zero, List.set_cons_succ, Nat.reduceAdd, Nat.reduceSub, Nat.reduceLeDiff, Nat.reduceLT, Nat.reduceMul, Int.reduceToNat, Int.reduceEq, Int.reduceAdd, Int.reduceSub, Int.reduceNeg, Bool.not_true, Bool.not_false, decide_true, decide_false, reduceIte, Nat.reduceEqDiff, ite_true, ite_false, e1, e2, hv, List.find?_cons, List.find?_nil, Sum.inr.injEq, Option.map_some, ops_ne]
    · rcases hv with hv | hv
      · rw [← e4, if_pos (e3.mp hv)]
        simp only [m_law_result, mb_law_result, mOwnD, mPutD, mGetD, mPCons, mPNil, keysP, toKey, mergeP, putP, valP, List.foldl_cons, List.foldl_nil, List.any_cons, List.any_nil, List.find?_cons, List.find?_nil, Sum.inr.injEq, Option.map_some, Bool.or_false, Bool.or_true, Bool.true_or, Bool.false_or, dIntC, runF, mSeq, seqS, mAsg, mBin, mUn, mVar, mC, mRet, mNext, mIfS, mTest, mTruth, mAnd, mOr, mNot, mAndV, mOrV, mNotV, mCl, mCons, mNil, mCall, mDrop, mDrI, mDrNe, mDrIx, mDrLen, mDrSet, mDrPop, drL, isDr0, toS, fName, R.lift, bind_ok, bind_err, bind_bad, eAdd, eSub, eMul, eDiv, eMod, ePow, eNeg, eLt, eLe, eGt, eGe, eEqI, eNeI, eEqS, eEqB, eNeB, eIdxL, eIdxT, eBool, eAbs, Bool.false_eq_true, dList, dTup, if_true, if_false, if_pos, List.map_cons, List.map_nil, List.length_cons, List.length_nil, List.replicate, List.cons_append, List.nil_append, List.getElem?_cons_zero, List.getElem?_cons_succ, List.set_cons_zero, List.set_cons_succ, Nat.reduceAdd, Nat.reduceSub, Nat.reduceLeDiff, Nat.reduceLT, Nat.reduceMul, Int.reduceToNat, Int.reduceEq, Int.reduceAdd, Int.reduceSub, Int.reduceNeg, Bool.not_true, Bool.not_false, decide_true, decide_false, reduceIte, Nat.reduceEqDiff, ite_true, ite_false, ops_ne, tw_1, m1, c1, c2, c2', c3, hz, d1, d3] at e1 e2 ⊢
        simp only [runF, mSeq, seqS, mAsg, mBin, mUn, mVar, mC, mRet, mNext, mIfS, mTest, mTruth, mAnd, mOr, mNot, mAndV, mOrV, mNotV, mCl, mCons, mNil, mCall, mDrop, mDrI, mDrNe, mDrIx, mDrLen, mDrSet, mDrPop, drL, isDr0, toS, fName, R.lift, bind_ok, bind_err, bind_bad, eAdd, eSub, eMul, eDiv, eMod, ePow, eNeg, eLt, eLe, eGt, eGe, eEqI, eNeI, eEqS, eEqB, eNeB, eIdxL, eIdxT, eBool, eAbs, Bool.false_eq_true, dList, dTup, if_true, if_false, if_pos, List.map_cons, List.map_nil, List.length_cons, List.length_nil, List.replicate, List.cons_append, List.nil_append, List.getElem?_cons_zero, List.getElem?_cons_succ, List.set_cons_zero, List.set_cons_succ, Nat.reduceAdd, Nat.reduceSub, Nat.reduceLeDiff, Nat.reduceLT, Nat.reduceMul, Int.reduceToNat, Int.reduceEq, Int.reduceAdd, Int.reduceSub, Int.reduceNeg, Bool.not_true, Bool.not_false, decide_true, decide_false, reduceIte, Nat.reduceEqDiff, ite_true, ite_false, e1, e2, hv, List.find?_cons, List.find?_nil, Sum.inr.injEq, Option.map_some, ops_ne]
      · rw [← e4, if_neg (fun z => hv (e3.mpr z))]
        simp only [m_law_result, mb_law_result, mOwnD, mPutD, mGetD, mPCons, mPNil, keysP, toKey, mergeP, putP, valP, List.foldl_cons, List.foldl_nil, List.any_cons, List.any_nil, List.find?_cons, List.find?_nil, Sum.inr.injEq, Option.map_some, Bool.or_false, Bool.or_true, Bool.true_or, Bool.false_or, dIntC, runF, mSeq, seqS, mAsg, mBin, mUn, mVar, mC, mRet, mNext, mIfS, mTest, mTruth, mAnd, mOr, mNot, mAndV, mOrV, mNotV, mCl, mCons, mNil, mCall, mDrop, mDrI, mDrNe, mDrIx, mDrLen, mDrSet, mDrPop, drL, isDr0, toS, fName, R.lift, bind_ok, bind_err, bind_bad, eAdd, eSub, eMul, eDiv, eMod, ePow, eNeg, eLt, eLe, eGt, eGe, eEqI, eNeI, eEqS, eEqB, eNeB, eIdxL, eIdxT, eBool, eAbs, Bool.false_eq_true, dList, dTup, if_true, if_false, if_pos, List.map_cons, List.map_nil, List.length_cons, List.length_nil, List.replicate, List.cons_append, List.nil_append, List.getElem?_cons_zero, List.getElem?_cons_succ, List.set_cons_zero, List.set_cons_succ, Nat.reduceAdd, Nat.reduceSub, Nat.reduceLeDiff, Nat.reduceLT, Nat.reduceMul, Int.reduceToNat, Int.reduceEq, Int.reduceAdd, Int.reduceSub, Int.reduceNeg, Bool.not_true, Bool.not_false, decide_true, decide_false, reduceIte, Nat.reduceEqDiff, ite_true, ite_false, ops_ne, tw_1, m1, c1, c2, c2', c3, hz, d1, d3] at e1 e2 ⊢
        simp only [runF, mSeq, seqS, mAsg, mBin, mUn, mVar, mC, mRet, mNext, mIfS, mTest, mTruth, mAnd, mOr, mNot, mAndV, mOrV, mNotV, mCl, mCons, mNil, mCall, mDrop, mDrI, mDrNe, mDrIx, mDrLen, mDrSet, mDrPop, drL, isDr0, toS, fName, R.lift, bind_ok, bind_err, bind_bad, eAdd, eSub, eMul, eDiv, eMod, ePow, eNeg, eLt, eLe, eGt, eGe, eEqI, eNeI, eEqS, eEqB, eNeB, eIdxL, eIdxT, eBool, eAbs, Bool.false_eq_true, dList, dTup, if_true, if_false, if_pos, List.map_cons, List.map_nil, List.length_cons, List.length_nil, List.replicate, List.cons_append, List.nil_append, List.getElem?_cons_zero, List.getElem?_cons_succ, List.set_cons_zero, List.set_cons_succ, Nat.reduceAdd, Nat.reduceSub, Nat.reduceLeDiff, Nat.reduceLT, Nat.reduceMul, Int.reduceToNat, Int.reduceEq, Int.reduceAdd, Int.reduceSub, Int.reduceNeg, Bool.not_true, Bool.not_false, decide_true, decide_false, reduceIte, Nat.reduceEqDiff, ite_true, ite_false, e1, e2, hv, List.find?_cons, List.find?_nil, Sum.inr.injEq, Option.map_some, ops_ne]
    · rcases hv with hv | hv
      · rw [← e4, if_pos (e3.mp hv)]
        simp only [m_law_result, mb_law_result, mOwnD, mPutD, mGetD, mPCons, mPNil, keysP, toKey, mergeP, putP, valP, List.foldl_cons, List.foldl_nil, List.any_cons, List.any_nil, List.find?_cons, List.find?_nil, Sum.inr.injEq, Option.map_some, Bool.or_false, Bool.or_true, Bool.true_or, Bool.false_or, dIntC, runF, mSeq, seqS, mAsg, mBin, mUn, mVar, mC, mRet, mNext, mIfS, mTest, mTruth, mAnd, mOr, mNot, mAndV, mOrV, mNotV, mCl, mCons, mNil, mCall, mDrop, mDrI, mDrNe, mDrIx, mDrLen, mDrSet, mDrPop, drL, isDr0, toS, fName, R.lift, bind_ok, bind_err, bind_bad, eAdd, eSub, eMul, eDiv, eMod, ePow, eNeg, eLt, eLe, eGt, eGe, eEqI, eNeI, eEqS, eEqB, eNeB, eIdxL, eIdxT, eBool, eAbs, Bool.false_eq_true, dList, dTup, if_true, if_false, if_pos, List.map_cons, List.map_nil, List.length_cons, List.length_nil, List.replicate, List.cons_append, List.nil_append, List.getElem?_cons_zero, List.getElem?_cons_succ, List.set_cons_zero, List.set_cons_succ, Nat.reduceAdd, Nat.reduceSub, Nat.reduceLeDiff, Nat.reduceLT, Nat.reduceMul, Int.reduceToNat, Int.reduceEq, Int.reduceAdd, Int.reduceSub, Int.reduceNeg, Bool.not_true, Bool.not_false, decide_true, decide_false, reduceIte, Nat.reduceEqDiff, ite_true, ite_false, ops_ne, tw_1, m1, c1, c2, c2', c3, hz, d1, d3] at e1 e2 ⊢
        simp only [runF, mSeq, seqS, mAsg, mBin, mUn, mVar, mC, mRet, mNext, mIfS, mTest, mTruth, mAnd, mOr, mNot, mAndV, mOrV, mNotV, mCl, mCons, mNil, mCall, mDrop, mDrI, mDrNe, mDrIx, mDrLen, mDrSet, mDrPop, drL, isDr0, toS, fName, R.lift, bind_ok, bind_err, bind_bad, eAdd, eSub, eMul, eDiv, eMod, ePow, eNeg, eLt, eLe, eGt, eGe, eEqI, eNeI, eEqS, eEqB, eNeB, eIdxL, eIdxT, eBool, eAbs, Bool.false_eq_true, dList, dTup, if_true, if_false, if_pos, List.map_cons, List.map_nil, List.length_cons, List.length_nil, List.replicate, List.cons_append, List.nil_append, List.getElem?_cons_zero, List.getElem?_cons_succ, List.set_cons_zero, List.set_cons_succ, Nat.reduceAdd, Nat.reduceSub, Nat.reduceLeDiff, Nat.reduceLT, Nat.reduceMul, Int.reduceToNat, Int.reduceEq, Int.reduceAdd, Int.reduceSub, Int.reduceNeg, Bool.not_true, Bool.not_false, decide_true, decide_false, reduceIte, Nat.reduceEqDiff, ite_true, ite_false, e1, e2, hv, List.find?_cons, List.find?_nil, Sum.inr.injEq, Option.map_some, ops_ne]
      · rw [← e4, if_neg (fun z => hv (e3.mpr z))]
        simp only [m_law_result, mb_law_result, mOwnD, mPutD, mGetD, mPCons, mPNil, keysP, toKey, mergeP, putP, valP, List.foldl_cons, List.foldl_nil, List.any_cons, List.any_nil, List.find?_cons, List.find?_nil, Sum.inr.injEq, Option.map_some, Bool.or_false, Bool.or_true, Bool.true_or, Bool.false_or, dIntC, runF, mSeq, seqS, mAsg, mBin, mUn, mVar, mC, mRet, mNext, mIfS, mTest, mTruth, mAnd, mOr, mNot, mAndV, mOrV, mNotV, mCl, mCons, mNil, mCall, mDrop, mDrI, mDrNe, mDrIx, mDrLen, mDrSet, mDrPop, drL, isDr0, toS, fName, R.lift, bind_ok, bind_err, bind_bad, eAdd, eSub, eMul, eDiv, eMod, ePow, eNeg, eLt, eLe, eGt, eGe, eEqI, eNeI, eEqS, eEqB, eNeB, eIdxL, eIdxT, eBool, eAbs, Bool.false_eq_true, dList, dTup, if_true, if_false, if_pos, List.map_cons, List.map_nil, List.length_cons, List.length_nil, List.replicate, List.cons_append, List.nil_append, List.getElem?_cons_zero, List.getElem?_cons_succ, List.set_cons_zero, List.set_cons_succ, Nat.reduceAdd, Nat.reduceSub, Nat.reduceLeDiff, Nat.reduceLT, Nat.reduceMul, Int.reduceToNat, Int.reduceEq, Int.reduceAdd, Int.reduceSub, Int.reduceNeg, Bool.not_true, Bool.not_false, decide_true, decide_false, reduceIte, Nat.reduceEqDiff, ite_true, ite_false, ops_ne, tw_1, m1, c1, c2, c2', c3, hz, d1, d3] at e1 e2 ⊢
        simp only [runF, mSeq, seqS, mAsg, mBin, mUn, mVar, mC, mRet, mNext, mIfS, mTest, mTruth, mAnd, mOr, mNot, mAndV, mOrV, mNotV, mCl, mCons, mNil, mCall, mDrop, mDrI, mDrNe, mDrIx, mDrLen, mDrSet, mDrPop, drL, isDr0, toS, fName, R.lift, bind_ok, bind_err, bind_bad, eAdd, eSub, eMul, eDiv, eMod, ePow, eNeg, eLt, eLe, eGt, eGe, eEqI, eNeI, eEqS, eEqB, eNeB, eIdxL, eIdxT, eBool, eAbs, Bool.false_eq_true, dList, dTup, if_true, if_false, if_pos, List.map_cons, List.map_nil, List.length_cons, List.length_nil, List.replicate, List.cons_append, List.nil_append, List.getElem?_cons_zero, List.getElem?_cons_succ, List.set_cons_zero, List.set_cons_succ, Nat.reduceAdd, Nat.reduceSub, Nat.reduceLeDiff, Nat.reduceLT, Nat.reduceMul, Int.reduceToNat, Int.reduceEq, Int.reduceAdd, Int.reduceSub, Int.reduceNeg, Bool.not_true, Bool.not_false, decide_true, decide_false, reduceIte, Nat.reduceEqDiff, ite_true, ite_false, e1, e2, hv, List.find?_cons, List.find?_nil, Sum.inr.injEq, Option.map_some, ops_ne]
theorem in_2 : dNotIn (.str "*") k_OPERATORS = some (.bl false) := rfl
theorem tw_2 : dIn (.str "*") (.tup [.str "//", .str "mod"]) = some (.bl false) := rfl
theorem ro_2 (A : Ad) {l r : Int} {s : Dr} (l0 : -(10 ^ 61) < l) (l1 : l < 10 ^ 61) (r0 : -(10 ^ 61) < r) (r1 : r < 10 ^ 61) : m_result_of A [.str "*", .int l, .int r] s = .ok (.int (l * r)) s := by
  have m1 : CMulG l r := mulG (by omega) (by omega) (by omega) (by omega)
  simp only [m_result_of, mb_result_of, runF, mSeq, seqS, mAsg, mBin, mUn, mVar, mC, mRet, mNext, mIfS, mTest, mTruth, mAnd, mOr, mNot, mAndV, mOrV, mNotV, mCl, mCons, mNil, mCall, mDrop, mDrI, mDrNe, mDrIx, mDrLen, mDrSet, mDrPop, drL, isDr0, toS, fName, R.lift, bind_ok, bind_err, bind_bad, eAdd, eSub, eMul, eDiv, eMod, ePow, eNeg, eLt, eLe, eGt, eGe, eEqI, eNeI, eEqS, eEqB, eNeB, eIdxL, eIdxT, eBool, eAbs, Bool.false_eq_true, dList, dTup, if_true, if_false, if_pos, List.map_cons, List.map_nil, List.length_cons, List.length_nil, List.replicate, List.cons_append, List.nil_append, List.getElem?_cons_zero, List.getElem?_cons_succ, List.set_cons_zero, List.set_cons_succ, Nat.reduceAdd, Nat.reduceSub, Nat.reduceLeDiff, Nat.reduceLT, Nat.reduceMul, Int.reduceToNat, Int.reduceEq, Int.reduceAdd, Int.reduceSub, Int.reduceNeg, Bool.not_true, Bool.not_false, decide_true, decide_false, reduceIte, Nat.reduceEqDiff, ite_true, ite_false, ops_ne, dMin2, dMax2, dI2, dIntC, m1]
theorem lr_2 (A : Ad) {l r : Int} {s : Dr} (l0 : -(10 ^ 61) < l) (l1 : l < 10 ^ 61) (r0 : -(10 ^ 61) < r) (r1 : r < 10 ^ 61) (v0 : -(10 ^ 150) < (l * r)) (v1 : (l * r) < 10 ^ 150) : m_law_result A [.str "*", .int l, .int r] s = .ok (dv (l * r)) s := by
  have m1 : CMulG l r := mulG (by omega) (by omega) (by omega) (by omega)
  obtain ⟨a0, a1⟩ := av_b v0 v1
  obtain ⟨L, e1, e2, e3⟩ := lenStr a0 a1
  unfold av at e1 e2
  have e4 : (if 10 ^ 60 ≤ av (l * r) then D.str "overflow" else D.int (l * r)) = dv (l * r) := rfl
  have hv : 60 < L ∨ ¬ 60 < L := Decidable.em _
  by_cases hr0 : r = 0
  · have hz : decide (r = 0) = true := decide_eq_true hr0
    refine tri l r (fun c1 c2 c2' c3 => ?_) (fun c1 c2 c2' c3 => ?_) (fun c1 c2 c2' c3 => ?_)
    · rcases hv with hv | hv
      · rw [← e4, if_pos (e3.mp hv)]
        simp only [m_law_result, mb_law_result, mOwnD, mPutD, mGetD, mPCons, mPNil, keysP, toKey, mergeP, putP, valP, List.foldl_cons, List.foldl_nil, List.any_cons, List.any_nil, List.find?_cons, List.find?_nil, Sum.inr.injEq, Option.map_some, Bool.or_false, Bool.or_true, Bool.true_or, Bool.false_or, dIntC, runF, mSeq, seqS, mAsg, mBin, mUn, mVar, mC, mRet, mNext, mIfS, mTest, mTruth, mAnd, mOr, mNot, mAndV, mOrV, mNotV, mCl, mCons, mNil, mCall, mDrop, mDrI, mDrNe, mDrIx, mDrLen, mDrSet, mDrPop, drL, isDr0, toS, fName, R.lift, bind_ok, bind_err, bind_bad, eAdd, eSub, eMul, eDiv, eMod, ePow, eNeg, eLt, eLe, eGt, eGe, eEqI, eNeI, eEqS, eEqB, eNeB, eIdxL, eIdxT, eBool, eAbs, Bool.false_eq_true, dList, dTup, if_true, if_false, if_pos, List.map_cons, List.map_nil, List.length_cons, List.length_nil, List.replicate, List.cons_append, List.nil_append, List.getElem?_cons_zero, List.getElem?_cons_succ, List.set_cons_zero, List.set_cons_succ, Nat.reduceAdd, Nat.reduceSub, Nat.reduceLeDiff, Nat.reduceLT, Nat.reduceMul, Int.reduceToNat, Int.reduceEq, Int.reduceAdd, Int.reduceSub, Int.reduceNeg, Bool.not_true, Bool.not_false, decide_true, decide_false, reduceIte, Nat.reduceEqDiff, ite_true, ite_false, ops_ne, tw_2, m1, c1, c2, c2', c3, hz] at e1 e2 ⊢
        simp only [runF, mSeq, seqS, mAsg, mBin, mUn, mVar, mC, mRet, mNext, mIfS, mTest, mTruth, mAnd, mOr, mNot, mAndV, mOrV, mNotV, mCl, mCons, mNil, mCall, mDrop, mDrI, mDrNe, mDrIx, mDrLen, mDrSet, mDrPop, drL, isDr0, toS, fName, R.lift, bind_ok, bind_err, bind_bad, eAdd, eSub, eMul, eDiv, eMod, ePow, eNeg, eLt, eLe, eGt, eGe, eEqI, eNeI, eEqS, eEqB, eNeB, eIdxL, eIdxT, eBool, eAbs, Bool.false_eq_true, dList, dTup, if_true, if_false, if_pos, List.map_cons, List.map_nil, List.length_cons, List.length_nil, List.replicate, List.cons_append, List.nil_append, List.getElem?_cons_zero, List.getElem?_cons_succ, List.set_cons_zero, List.set_cons_succ, Nat.reduceAdd, Nat.reduceSub, Nat.reduceLeDiff, Nat.reduceLT, Nat.reduceMul, Int.reduceToNat, Int.reduceEq, Int.reduceAdd, Int.reduceSub, Int.reduceNeg, Bool.not_true, Bool.not_false, decide_true, decide_false, reduceIte, Nat.reduceEqDiff, ite_true, ite_false, e1, e2, hv, List.find?_cons, List.find?_nil, Sum.inr.injEq, Option.map_some, ops_ne]
      · rw [← e4, if_neg (fun z => hv (e3.mpr z))]
        simp only [m_law_result, mb_law_result, mOwnD, mPutD, mGetD, mPCons, mPNil, keysP, toKey, mergeP, putP, valP, List.foldl_cons, List.foldl_nil, List.any_cons, List.any_nil, List.find?_cons, List.find?_nil, Sum.inr.injEq, Option.map_some, Bool.or_false, Bool.or_true, Bool.true_or, Bool.false_or, dIntC, runF, mSeq, seqS, mAsg, mBin, mUn, mVar, mC, mRet, mNext, mIfS, mTest, mTruth, mAnd, mOr, mNot, mAndV, mOrV, mNotV, mCl, mCons, mNil, mCall, mDrop, mDrI, mDrNe, mDrIx, mDrLen, mDrSet, mDrPop, drL, isDr0, toS, fName, R.lift, bind_ok, bind_err, bind_bad, eAdd, eSub, eMul, eDiv, eMod, ePow, eNeg, eLt, eLe, eGt, eGe, eEqI, eNeI, eEqS, eEqB, eNeB, eIdxL, eIdxT, eBool, eAbs, Bool.false_eq_true, dList, dTup, if_true, if_false, if_pos, List.map_cons, List.map_nil, List.length_cons, List.length_nil, List.replicate, List.cons_append, List.nil_append, List.getElem?_cons_zero, List.getElem?_cons_succ, List.set_cons_zero, List.set_cons_succ, Nat.reduceAdd, Nat.reduceSub, Nat.reduceLeDiff, Nat.reduceLT, Nat.reduceMul, Int.reduceToNat, Int.reduceEq, Int.reduceAdd, Int.reduceSub, Int.reduceNeg, Bool.not_true, Bool.not_false, decide_true, decide_false, reduceIte, Nat.reduceEqDiff, ite_true, ite_false, ops_ne, tw_2, m1, c1, c2, c2', c3, hz] at e1 e2 ⊢
        simp only [runF, mSeq, seqS, mAsg, mBin, mUn, mVar, mC, mRet, mNext, mIfS, mTest, mTruth, mAnd, mOr, mNot, mAndV, mOrV, mNotV, mCl, mCons, mNil, mCall, mDrop, mDrI, mDrNe, mDrIx, mDrLen, mDrSet, mDrPop, drL, isDr0, toS, fName, R.lift, bind_ok, bind_err, bind_bad, eAdd, eSub, eMul, eDiv, eMod, ePow, eNeg, eLt, eLe, eGt, eGe, eEqI, eNeI, eEqS, eEqB, eNeB, eIdxL, eIdxT, eBool, eAbs, Bool.false_eq_true, dList, dTup, if_true, if_false, if_pos, List.map_cons, List.map_nil, List.length_cons, List.length_nil, List.replicate, List.cons_append, List.nil_append, List.getElem?_cons_zero, List.getElem?_cons_succ, List.set_cons_zero, List.set_cons_succ, Nat.reduceAdd, Nat.reduceSub, Nat.reduceLeDiff, Nat.reduceLT, Nat.reduceMul, Int.reduceToNat, Int.reduceEq, Int.reduceAdd, Int.reduceSub, Int.reduceNeg, Bool.not_true, Bool.not_false, decide_true, decide_false, reduceIte, Nat.reduceEqDiff, ite_true, ite_false, e1, e2, hv, List.find?_cons, List.find?_nil, Sum.inr.injEq, Option.map_some, ops_ne]
    · rcases hv with hv | hv
      · rw [← e4, if_pos (e3.mp hv)]
        simp only [m_law_result, mb_law_result, mOwnD, mPutD, mGetD, mPCons, mPNil, keysP, toKey, mergeP, putP, valP, List.foldl_cons, List.foldl_nil, List.any_cons, List.any_nil, List.find?_cons, List.find?_nil, Sum.inr.injEq, Option.map_some, Bool.or_false, Bool.or_true, Bool.true_or, Bool.false_or, dIntC, runF, mSeq, seqS, mAsg, mBin, mUn, mVar, mC, mRet, mNext, mIfS, mTest, mTruth, mAnd, mOr, mNot, mAndV, mOrV, mNotV, mCl, mCons, mNil, mCall, mDrop, mDrI, mDrNe, mDrIx, mDrLen, mDrSet, mDrPop, drL, isDr0, toS, fName, R.lift, bind_ok, bind_err, bind_bad, eAdd, eSub, eMul, eDiv, eMod, ePow, eNeg, eLt, eLe, eGt, eGe, eEqI, eNeI, eEqS, eEqB, eNeB, eIdxL, eIdxT, eBool, eAbs, Bool.false_eq_true, dList, dTup, if_true, if_false, if_pos, List.map_cons, List.map_nil, List.length_cons, List.length_nil, List.replicate, List.cons_append, List.nil_append, List.getElem?_cons_zero, List.getElem?_cons_succ, List.set_cons_zero, List.set_cons_succ, Nat.reduceAdd, Nat.reduceSub, Nat.reduceLeDiff, Nat.reduceLT, Nat.reduceMul, Int.reduceToNat, Int.reduceEq, Int.reduceAdd, Int.reduceSub, Int.reduceNeg, Bool.not_true, Bool.not_false, decide_true, decide_false, reduceIte, Nat.reduceEqDiff, ite_true, ite_false, ops_ne, tw_2, m1, c1, c2, c2', c3, hz] at e1 e2 ⊢
        simp only [runF, mSeq, seqS, mAsg, mBin, mUn, mVar, mC, mRet, mNext, mIfS, mTest, mTruth, mAnd, mOr, mNot, mAndV, mOrV, mNotV, mCl, mCons, mNil, mCall, mDrop, mDrI, mDrNe, mDrIx, mDrLen, mDrSet, mDrPop, drL, isDr0, toS, fName, R.lift, bind_ok, bind_err, bind_bad, eAdd, eSub, eMul, eDiv, eMod, ePow, eNeg, eLt, eLe, eGt, eGe, eEqI, eNeI, eEqS, eEqB, eNeB, eIdxL, eIdxT, eBool, eAbs, Bool.false_eq_true, dList, dTup, if_true, if_false, if_pos, List.map_cons, List.map_nil, List.length_cons, List.length_nil, List.replicate, List.cons_append, List.nil_append, List.getElem?_cons_zero, List.getElem?_cons_succ, List.set_cons_zero, List.set_cons_succ, Nat.reduceAdd, Nat.reduceSub, Nat.reduceLeDiff, Nat.reduceLT, Nat.reduceMul, Int.reduceToNat, Int.reduceEq, Int.reduceAdd, Int.reduceSub, Int.reduceNeg, Bool.not_true, Bool.not_false, decide_true, decide_false, reduceIte, Nat.reduceEqDiff, ite_true, ite_false, e1, e2, hv, List.find?_cons, List.find?_nil, Sum.inr.injEq, Option.map_some, ops_ne]
      · rw [← e4, if_neg (fun z => hv (e3.mpr z))]
        simp only [m_law_result, mb_law_result, mOwnD, mPutD, mGetD, mPCons, mPNil, keysP, toKey, mergeP, putP, valP, List.foldl_cons, List.foldl_nil, List.any_cons, List.any_nil, List.find?_cons, List.find?_nil, Sum.inr.injEq, Option.map_some, Bool.or_false, Bool.or_true, Bool.true_or, Bool.false_or, dIntC, runF, mSeq, seqS, mAsg, mBin, mUn, mVar, mC, mRet, mNext, mIfS, mTest, mTruth, mAnd, mOr, mNot, mAndV, mOrV, mNotV, mCl, mCons, mNil, mCall, mDrop, mDrI, mDrNe, mDrIx, mDrLen, mDrSet, mDrPop, drL, isDr0, toS, fName, R.lift, bind_ok, bind_err, bind_bad, eAdd, eSub, eMul, eDiv, eMod, ePow, eNeg, eLt, eLe, eGt, eGe, eEqI, eNeI, eEqS, eEqB, eNeB, eIdxL, eIdxT, eBool, eAbs, Bool.false_eq_true, dList, dTup, if_true, if_false, if_pos, List.map_cons, List.map_nil, List.length_cons, List.length_nil, List.replicate, List.cons_append, List.nil_append, List.getElem?_cons_zero, List.getElem?_cons_succ, List.set_cons_zero, List.set_cons_succ, Nat.reduceAdd, Nat.reduceSub, Nat.reduceLeDiff, Nat.reduceLT, Nat.reduceMul, Int.reduceToNat, Int.reduceEq, Int.reduceAdd, Int.reduceSub, Int.reduceNeg, Bool.not_true, Bool.not_false, decide_true, decide_false, reduceIte, Nat.reduceEqDiff, ite_true, ite_false, ops_ne, tw_2, m1, c1, c2, c2', c3, hz] at e1 e2 ⊢
        simp only [runF, mSeq, seqS, mAsg, mBin, mUn, mVar, mC, mRet, mNext, mIfS, mTest, mTruth, mAnd, mOr, mNot, mAndV, mOrV, mNotV, mCl, mCons, mNil, mCall, mDrop, mDrI, mDrNe, mDrIx, mDrLen, mDrSet, mDrPop, drL, isDr0, toS, fName, R.lift, bind_ok, bind_err, bind_bad, eAdd, eSub, eMul, eDiv, eMod, ePow, eNeg, eLt, eLe, eGt, eGe, eEqI, eNeI, eEqS, eEqB, eNeB, eIdxL, eIdxT, eBool, eAbs, Bool.false_eq_true, dList, dTup, if_true, if_false, if_pos, List.map_cons, List.map_nil, List.length_cons, List.length_nil, List.replicate, List.cons_append, List.nil_append, List.getElem?_cons_zero, List.getElem?_cons_succ, List.set_cons_zero, List.set_cons_succ, Nat.reduceAdd, Nat.reduceSub, Nat.reduceLeDiff, Nat.reduceLT, Nat.reduceMul, Int.reduceToNat, Int.reduceEq, Int.reduceAdd, Int.reduceSub, Int.reduceNeg, Bool.not_true, Bool.not_false, decide_true, decide_false, reduceIte, Nat.reduceEqDiff, ite_true, ite_false, e1, e2, hv, List.find?_cons, List.find?_nil, Sum.inr.injEq, Option.map_some, ops_ne]
    · rcases hv with hv | hv
      · rw [← e4, if_pos (e3.mp hv)]
        simp only [m_law_result, mb_law_result, mOwnD, mPutD, mGetD, mPCons, mPNil, keysP, toKey, mergeP, putP, valP, List.foldl_cons, List.foldl_nil, List.any_cons, List.any_nil, List.find?_cons, List.find?_nil, Sum.inr.injEq, Option.map_some, Bool.or_false, Bool.or_true, Bool.true_or, Bool.false_or, dIntC, runF, mSeq, seqS, mAsg, mBin, mUn, mVar, mC, mRet, mNext, mIfS, mTest, mTruth, mAnd, mOr, mNot, mAndV, mOrV, mNotV, mCl, mCons, mNil, mCall, mDrop, mDrI, mDrNe, mDrIx, mDrLen, mDrSet, mDrPop, drL, isDr0, toS, fName, R.lift, bind_ok, bind_err, bind_bad, eAdd, eSub, eMul, eDiv, eMod, ePow, eNeg, eLt, eLe, eGt, eGe, eEqI, eNeI, eEqS, eEqB, eNeB, eIdxL, eIdxT, eBool, eAbs, Bool.false_eq_true, dList, dTup, if_true, if_false, if_pos, List.map_cons, List.map_nil, List.length_cons, List.length_nil, List.replicate, List.cons_append, List.nil_append, List.getElem?_cons_zero, List.getElem?_cons_succ, List.set_cons_zero, List.set_cons_succ, Nat.reduceAdd, Nat.reduceSub, Nat.reduceLeDiff, Nat.reduceLT, Nat.reduceMul, Int.reduceToNat, Int.reduceEq, Int.reduceAdd, Int.reduceSub, Int.reduceNeg, Bool.not_true, Bool.not_false, decide_true, decide_false, reduceIte, Nat.reduceEqDiff, ite_true, ite_false, ops_ne, tw_2, m1, c1, c2, c2', c3, hz] at e1 e2 ⊢
        simp only [runF, mSeq, seqS, mAsg, mBin, mUn, mVar, mC, mRet, mNext, mIfS, mTest, mTruth, mAnd, mOr, mNot, mAndV, mOrV, mNotV, mCl, mCons, mNil, mCall, mDrop, mDrI, mDrNe, mDrIx, mDrLen, mDrSet, mDrPop, drL, isDr0, toS, fName, R.lift, bind_ok, bind_err, bind_bad, eAdd, eSub, eMul, eDiv, eMod, ePow, eNeg, eLt, eLe, eGt, eGe, eEqI, eNeI, eEqS, eEqB, eNeB, eIdxL, eIdxT, eBool, eAbs, Bool.false_eq_true, dList, dTup, if_true, if_false, if_pos, List.map_cons, List.map_nil, List.length_cons, List.length_nil, List.replicate, List.cons_append, List.nil_append, List.getElem?_cons_zero, List.getElem?_cons_succ, List.set_cons_zero, List.set_cons_succ, Nat.reduceAdd, Nat.reduceSub, Nat.reduceLeDiff, Nat.reduceLT, Nat.reduceMul, Int.reduceToNat, Int.reduceEq, Int.reduceAdd, Int.reduceSub, Int.reduceNeg, Bool.not_true, Bool.not_false, decide_true, decide_false, reduceIte, Nat.reduceEqDiff, ite_true, ite_false, e1, e2, hv, List.find?_cons, List.find?_nil, Sum.inr.injEq, Option.map_some, ops_ne]
      · rw [← e4, if_neg (fun z => hv (e3.mpr z))]
        simp only [m_law_result, mb_law_result, mOwnD, mPutD, mGetD, mPCons, mPNil, keysP, toKey, mergeP, putP, valP, List.foldl_cons, List.foldl_nil, List.any_cons, List.any_nil, List.find?_cons, List.find?_nil, Sum.inr.injEq, Option.map_some, Bool.or_false, Bool.or_true, Bool.true_or, Bool.false_or, dIntC, runF, mSeq, seqS, mAsg, mBin, mUn, mVar, mC, mRet, mNext, mIfS, mTest, mTruth, mAnd, mOr, mNot, mAndV, mOrV, mNotV, mCl, mCons, mNil, mCall, mDrop, mDrI, mDrNe, mDrIx, mDrLen, mDrSet, mDrPop, drL, isDr0, toS, fName, R.lift, bind_ok, bind_err, bind_bad, eAdd, eSub, eMul, eDiv, eMod, ePow, eNeg, eLt, eLe, eGt, eGe, eEqI, eNeI, eEqS, eEqB, eNeB, eIdxL, eIdxT, eBool, eAbs, Bool.false_eq_true, dList, dTup, if_true, if_false, if_pos, List.map_cons, List.map_nil, List.length_cons, List.length_nil, List.replicate, List.cons_append, List.nil_append, List.getElem?_cons_zero, List.getElem?_cons_succ, List.set_cons_zero, List.set_cons_succ, Nat.reduceAdd, Nat.reduceSub, Nat.reduceLeDiff, Nat.reduceLT, Nat.reduceMul, Int.reduceToNat, Int.reduceEq, Int.reduceAdd, Int.reduceSub, Int.reduceNeg, Bool.not_true, Bool.not_false, decide_true, decide_false, reduceIte, Nat.reduceEqDiff, ite_true, ite_false, ops_ne, tw_2, m1, c1, c2, c2', c3, hz] at e1 e2 ⊢
        simp only [runF, mSeq, seqS, mAsg, mBin, mUn, mVar, mC, mRet, mNext, mIfS, mTest, mTruth, mAnd, mOr, mNot, mAndV, mOrV, mNotV, mCl, mCons, mNil, mCall, mDrop, mDrI, mDrNe, mDrIx, mDrLen, mDrSet, mDrPop, drL, isDr0, toS, fName, R.lift, bind_ok, bind_err, bind_bad, eAdd, eSub, eMul, eDiv, eMod, ePow, eNeg, eLt, eLe, eGt, eGe, eEqI, eNeI, eEqS, eEqB, eNeB, eIdxL, eIdxT, eBool, eAbs, Bool.false_eq_true, dList, dTup, if_true, if_false, if_pos, List.map_cons, List.map_nil, List.length_cons, List.length_nil, List.replicate, List.cons_append, List.nil_append, List.getElem?_cons_zero, List.getElem?_cons_succ, List.set_cons_zero, List.set_cons_succ, Nat.reduceAdd, Nat.reduceSub, Nat.reduceLeDiff, Nat.reduceLT, Nat.reduceMul, Int.reduceToNat, Int.reduceEq, Int.reduceAdd, Int.reduceSub, Int.reduceNeg, Bool.not_true, Bool.not_false, decide_true, decide_false, reduceIte, Nat.reduceEqDiff, ite_true, ite_false, e1, e2, hv, List.find?_cons, List.find?_nil, Sum.inr.injEq, Option.map_some, ops_ne]
  · have hz : decide (r = 0) = false := decide_eq_false hr0
    have d1 : CDivG l r := divG hr0 (by omega) (by omega)
    have f := fdiv_b l0 l1 hr0
    have d3 : CMulG r (l.fdiv r) := mulG (by omega) (by omega) (by omega) (by omega)
    refine tri l r (fun c1 c2 c2' c3 => ?_) (fun c1 c2 c2' c3 => ?_) (fun c1 c2 c2' c3 => ?_)
    · rcases hv with hv | hv
      · rw [← e4, if_pos (e3.mp hv)]
        simp only [m_law_result, mb_law_result, mOwnD, mPutD, mGetD, mPCons, mPNil, keysP, toKey, mergeP, putP, valP, List.foldl_cons, List.foldl_nil, List.any_cons, List.any_nil, List.find?_cons, List.find?_nil, Sum.inr.injEq, Option.map_some, Bool.or_false, Bool.or_true, Bool.true_or, Bool.false_or, dIntC, runF, mSeq, seqS, mAsg, mBin, mUn, mVar, mC, mRet, mNext, mIfS, mTest, mTruth, mAnd, mOr, mNot, mAndV, mOrV, mNotV, mCl, mCons, mNil, mCall, mDrop, mDrI, mDrNe, mDrIx, mDrLen, mDrSet, mDrPop, drL, isDr0, toS, fName, R.lift, bind_ok, bind_err, bind_bad, eAdd, eSub, eMul, eDiv, eMod, ePow, eNeg, eLt, eLe, eGt, eGe, eEqI, eNeI, eEqS, eEqB, eNeB, eIdxL, eIdxT, eBool, eAbs, Bool.false_eq_true, dList, dTup, if_true, if_false, if_pos, List.map_cons, List.map_nil, List.length_cons, List.length_nil, List.replicate, List.cons_append, List.nil_append, List.getElem?_cons_zero, List.getElem?_cons_succ, List.set_cons_zero, List.set_cons_succ, Nat.reduceAdd, Nat.reduceSub, Nat.reduceLeDiff, Nat.reduceLT, Nat.reduceMul, Int.reduceToNat, Int.reduceEq, Int.reduceAdd, Int.reduceSub, Int.reduceNeg, Bool.not_true, Bool.not_false, decide_true, decide_false, reduceIte, Nat.reduceEqDiff, ite_true, ite_false, ops_ne, tw_2, m1, c1, c2, c2', c3, hz, d1, d3] at e1 e2 ⊢
        simp only [runF, mSeq, seqS, mAsg, mBin, mUn, mVar, mC, mRet, mNext, mIfS, mTest, mTruth, mAnd, mOr, mNot, mAndV, mOrV, mNotV, mCl, mCons, mNil, mCall, mDrop, mDrI, mDrNe, mDrIx, mDrLen, mDrSet, mDrPop, drL, isDr0, toS, fName, R.lift, bind_ok, bind_err, bind_bad, eAdd, eSub, eMul, eDiv, eMod, ePow, eNeg, eLt, eLe, eGt, eGe, eEqI, eNeI, eEqS, eEqB, eNeB, eIdxL, eIdxT, eBool, eAbs, Bool.false_eq_true, dList, dTup, if_true, if_false, if_pos, List.map_cons, List.map_nil, List.length_cons, List.length_nil, List.replicate, List.cons_append, List.nil_append, List.getElem?_cons_zero, List.getElem?_cons_succ, List.set_cons_zero, List.set_cons_succ, Nat.reduceAdd, Nat.reduceSub, Nat.reduceLeDiff, Nat.reduceLT, Nat.reduceMul, Int.reduceToNat, Int.reduceEq, Int.reduceAdd, Int.reduceSub, Int.reduceNeg, Bool.not_true, Bool.not_false, decide_true, decide_false, reduceIte, Nat.reduceEqDiff, ite_true, ite_false, e1, e2, hv, List.find?_cons, List.find?_nil, Sum.inr.injEq, Option.map_some, ops_ne]
      · rw [← e4, if_neg (fun z => hv (e3.mpr z))]
        simp only [m_law_result, mb_law_result, mOwnD, mPutD, mGetD, mPCons, mPNil, keysP, toKey, mergeP, putP, valP, List.foldl_cons, List.foldl_nil, List.any_cons, List.any_nil, List.find?_cons, List.find?_nil, Sum.inr.injEq, Option.map_some, Bool.or_false, Bool.or_true, Bool.true_or, Bool.false_or, dIntC, runF, mSeq, seqS, mAsg, mBin, mUn, mVar, mC, mRet, mNext, mIfS, mTest, mTruth, mAnd, mOr, mNot, mAndV, mOrV, mNotV, mCl, mCons, mNil, mCall, mDrop, mDrI, mDrNe, mDrIx, mDrLen, mDrSet, mDrPop, drL, isDr0, toS, fName, R.lift, bind_ok, bind_err, bind_bad, eAdd, eSub, eMul, eDiv, eMod, ePow, eNeg, eLt, eLe, eGt, eGe, eEqI, eNeI, eEqS, eEqB, eNeB, eIdxL, eIdxT, eBool, eAbs, Bool.false_eq_true, dList, dTup, if_true, if_false, if_pos, List.map_cons, List.map_nil, List.length_cons, List.length_nil, List.replicate, List.cons_append, List.nil_append, List.getElem?_cons_zero, List.getElem?_cons_succ, List.set_cons_zero, List.set_cons_succ, Nat.reduceAdd, Nat.reduceSub, Nat.reduceLeDiff, Nat.reduceLT, Nat.reduceMul, Int.reduceToNat, Int.reduceEq, Int.reduceAdd, Int.reduceSub, Int.reduceNeg, Bool.not_true, Bool.not_false, decide_true, decide_false, reduceIte, Nat.reduceEqDiff, ite_true, ite_false, ops_ne, tw_2, m1, c1, c2, c2', c3, hz, d1, d3] at e1 e2 ⊢
        simp only [runF, mSeq, seqS, mAsg, mBin, mUn, mVar, mC, mRet, mNext, mIfS, mTest, mTruth, mAnd, mOr, mNot, mAndV, mOrV, mNotV, mCl, mCons, mNil, mCall, mDrop, mDrI, mDrNe, mDrIx, mDrLen, mDrSet, mDrPop, drL, isDr0, toS, fName, R.lift, bind_ok, bind_err, bind_bad, eAdd, eSub, eMul, eDiv, eMod, ePow, eNeg, eLt, eLe, eGt, eGe, eEqI, eNeI, eEqS, eEqB, eNeB, eIdxL, eIdxT, eBool, eAbs, Bool.false_eq_true, dList, dTup, if_true, if_false, if_pos, List.map_cons, List.map_nil, List.length_cons, List.length_nil, List.replicate, List.cons_append, List.nil_append, List.getElem?_cons_zero, List.getElem?_cons_succ, List.set_cons_zero, List.set_cons_succ, Nat.reduceAdd, Nat.reduceSub, Nat.reduceLeDiff, Nat.reduceLT, Nat.reduceMul, Int.reduceToNat, Int.reduceEq, Int.reduceAdd, Int.reduceSub, Int.reduceNeg, Bool.not_true, Bool.not_false, decide_true, decide_false, reduceIte, Nat.reduceEqDiff, ite_true, ite_false, e1, e2, hv, List.find?_cons, List.find?_nil, Sum.inr.injEq, Option.map_some, ops_ne]
    · rcases hv with hv | hv
      · rw [← e4, if_pos (e3.mp hv)]
        simp only [m_law_result, mb_law_result, mOwnD, mPutD, mGetD, mPCons, mPNil, keysP, toKey, mergeP, putP, valP, List.foldl_cons, List.foldl_nil, List.any_cons, List.any_nil, List.find?_cons, List.find?_nil, Sum.inr.injEq, Option.map_some, Bool.or_false, Bool.or_true, Bool.true_or, Bool.false_or, dIntC, runF, mSeq, seqS, mAsg, mBin, mUn, mVar, mC, mRet, mNext, mIfS, mTest, mTruth, mAnd, mOr, mNot, mAndV, mOrV, mNotV, mCl, mCons, mNil, mCall, mDrop, mDrI, mDrNe, mDrIx, mDrLen, mDrSet, mDrPop, drL, isDr0, toS, fName, R.lift, bind_ok, bind_err, bind_bad, eAdd, eSub, eMul, eDiv, eMod, ePow, eNeg, eLt, eLe, eGt, eGe, eEqI, eNeI, eEqS, eEqB, eNeB, eIdxL, eIdxT, eBool, eAbs, Bool.false_eq_true, dList, dTup, if_true, if_false, if_pos, List.map_cons, List.map_nil, List.length_cons, List.length_nil, List.replicate, List.cons_append, List.nil_append, List.getElem?_cons_zero, List.getElem?_cons_succ, List.set_cons_zero, List.set_cons_succ, Nat.reduceAdd, Nat.reduceSub, Nat.reduceLeDiff, Nat.reduceLT, Nat.reduceMul, Int.reduceToNat, Int.reduceEq, Int.reduceAdd, Int.reduceSub, Int.reduceNeg, Bool.not_true, Bool.not_false, decide_true, decide_false, reduceIte, Nat.reduceEqDiff, ite_true, ite_false, ops_ne, tw_2, m1, c1, c2, c2', c3, hz, d1, d3] at e1 e2 ⊢
        simp only [runF, mSeq, seqS, mAsg, mBin, mUn, mVar, mC, mRet, mNext, mIfS, mTest, mTruth, mAnd, mOr, mNot, mAndV, mOrV, mNotV, mCl, mCons, mNil, mCall, mDrop, mDrI, mDrNe, mDrIx, mDrLen, mDrSet, mDrPop, drL, isDr0, toS, fName, R.lift, bind_ok, bind_err, bind_bad, eAdd, eSub, eMul, eDiv, eMod, ePow, eNeg, eLt, eLe, eGt, eGe, eEqI, eNeI, eEqS, eEqB, eNeB, eIdxL, eIdxT, eBool, eAbs, Bool.false_eq_true, dList, dTup, if_true, if_false, if_pos, List.map_cons, List.map_nil, List.length_cons, List.length_nil, List.replicate, List.cons_append, List.nil_append, List.getElem?_cons_zero, List.getElem?_cons_succ, List.set_cons_zero, List.set_cons_succ, Nat.reduceAdd, Nat.reduceSub, Nat.reduceLeDiff, Nat.reduceLT, Nat.reduceMul, Int.reduceToNat, Int.reduceEq, Int.reduceAdd, Int.reduceSub, Int.reduceNeg, Bool.not_true, Bool.not_false, decide_true, decide_false, reduceIte, Nat.reduceEqDiff, ite_true, ite_false, e1, e2, hv, List.find?_cons, List.find?_nil, Sum.inr.injEq, Option.map_some, ops_ne]
      · rw [← e4, if_neg (fun z => hv (e3.mpr z))]
        simp only [m_law_result, mb_law_result, mOwnD, mPutD, mGetD, mPCons, mPNil, keysP, toKey, mergeP, putP, valP, List.foldl_cons, List.foldl_nil, List.any_cons, List.any_nil, List.find?_cons, List.find?_nil, Sum.inr.injEq, Option.map_some, Bool.or_false, Bool.or_true, Bool.true_or, Bool.false_or, dIntC, runF, mSeq, seqS, mAsg, mBin, mUn, mVar, mC, mRet, mNext, mIfS, mTest, mTruth, mAnd, mOr, mNot, mAndV, mOrV, mNotV, mCl, mCons, mNil, mCall, mDrop, mDrI, mDrNe, mDrIx, mDrLen, mDrSet, mDrPop, drL, isDr0, toS, fName, R.lift, bind_ok, bind_err, bind_bad, eAdd, eSub, eMul, eDiv, eMod, ePow, eNeg, eLt, eLe, eGt, eGe, eEqI, eNeI, eEqS, eEqB, eNeB, eIdxL, eIdxT, eBool, eAbs, Bool.false_eq_true, dList, dTup, if_true, if_false, if_pos, List.map_cons, List.map_nil, List.length_cons, List.length_nil, List.replicate, List.cons_append, List.nil_append, List.getElem?_cons_zero, List.getElem?_cons_succ, List.set_cons_zero, List.set_cons_succ, Nat.reduceAdd, Nat.reduceSub, Nat.reduceLeDiff, Nat.reduceLT, Nat.reduceMul, Int.reduceToNat, Int.reduceEq, Int.reduceAdd, Int.reduceSub, Int.reduceNeg, Bool.not_true, Bool.not_false, decide_true, decide_false, reduceIte, Nat.reduceEqDiff, ite_true, ite_false, ops_ne, tw_2, m1, c1, c2, c2', c3, hz, d1, d3] at e1 e2 ⊢
        simp only [runF, mSeq, seqS, mAsg, mBin, mUn, mVar, mC, mRet, mNext, mIfS, mTest, mTruth, mAnd, mOr, mNot, mAndV, mOrV, mNotV, mCl, mCons, mNil, mCall, mDrop, mDrI, mDrNe, mDrIx, mDrLen, mDrSet, mDrPop, drL, isDr0, toS, fName, R.lift, bind_ok, bind_err, bind_bad, eAdd, eSub, eMul, eDiv, eMod, ePow, eNeg, eLt, eLe, eGt, eGe, eEqI, eNeI, eEqS, eEqB, eNeB, eIdxL, eIdxT, eBool, eAbs, Bool.false_eq_true, dList, dTup, if_true, if_false, if_pos, List.map_cons, List.map_nil, List.length_cons, List.length_nil, List.replicate, List.cons_append, List.nil_append, List.getElem?_cons_zero, List.getElem?_cons_succ, List.set_cons_zero, List.set_cons_succ, Nat.reduceAdd, Nat.reduceSub, Nat.reduceLeDiff, Nat.reduceLT, Nat.reduceMul, Int.reduceToNat, Int.reduceEq, Int.reduceAdd, Int.reduceSub, Int.reduceNeg, Bool.not_true, Bool.not_false, decide_true, decide_false, reduceIte, Nat.reduceEqDiff, ite_true, ite_false, e1, e2, hv, List.find?_cons, List.find?_nil, Sum.inr.injEq, Option.map_some, ops_ne]
    · rcases hv with hv | hv
      · rw [← e4, if_pos (e3.mp hv)]
        simp only [m_law_result, mb_law_result, mOwnD, mPutD, mGetD, mPCons, mPNil, keysP, toKey, mergeP, putP, valP, List.foldl_cons, List.foldl_nil, List.any_cons, List.any_nil, List.find?_cons, List.find?_nil, Sum.inr.injEq, Option.map_some, Bool.or_false, Bool.or_true, Bool.true_or, Bool.false_or, dIntC, runF, mSeq, seqS, mAsg, mBin, mUn, mVar, mC, mRet, mNext, mIfS, mTest, mTruth, mAnd, mOr, mNot, mAndV, mOrV, mNotV, mCl, mCons, mNil, mCall, mDrop, mDrI, mDrNe, mDrIx, mDrLen, mDrSet, mDrPop, drL, isDr0, toS, fName, R.lift, bind_ok, bind_err, bind_bad, eAdd, eSub, eMul, eDiv, eMod, ePow, eNeg, eLt, eLe, eGt, eGe, eEqI, eNeI, eEqS, eEqB, eNeB, eIdxL, eIdxT, eBool, eAbs, Bool.false_eq_true, dList, dTup, if_true, if_false, if_pos, List.map_cons, List.map_nil, List.length_cons, List.length_nil, List.replicate, List.cons_append, List.nil_append, List.getElem?_cons_zero, List.getElem?_cons_succ, List.set_cons_zero, List.set_cons_succ, Nat.reduceAdd, Nat.reduceSub, Nat.reduceLeDiff, Nat.reduceLT, Nat.reduceMul, Int.reduceToNat, Int.reduceEq, Int.reduceAdd, Int.reduceSub, Int.reduceNeg, Bool.not_true, Bool.not_false, decide_true, decide_false, reduceIte, Nat.reduceEqDiff, ite_true, ite_false, ops_ne, tw_2, m1, c1, c2, c2', c3, hz, d1, d3] at e1 e2 ⊢
        simp only [runF, mSeq, seqS, mAsg, mBin, mUn, mVar, mC, mRet, mNext, mIfS, mTest, mTruth, mAnd, mOr, mNot, mAndV, mOrV, mNotV, mCl, mCons, mNil, mCall, mDrop, mDrI, mDrNe, mDrIx, mDrLen, mDrSet, mDrPop, drL, isDr0, toS, fName, R.lift, bind_ok, bind_err, bind_bad, eAdd, eSub, eMul, eDiv, eMod, ePow, eNeg, eLt, eLe, eGt, eGe, eEqI, eNeI, eEqS, eEqB, eNeB, eIdxL, eIdxT, eBool, eAbs, Bool.false_eq_true, dList, dTup, if_true, if_false, if_pos, List.map_cons, List.map_nil, List.length_cons, List.length_nil, List.replicate, List.cons_append, List.nil_append, List.getElem?_cons_zero, List.getElem?_cons_succ, List.set_cons_zero, List.set_cons_succ, Nat.reduceAdd, Nat.reduceSub, Nat.reduceLeDiff, Nat.reduceLT, Nat.reduceMul, Int.reduceToNat, Int.reduceEq, Int.reduceAdd, Int.reduceSub, Int.reduceNeg, Bool.not_true, Bool.not_false, decide_true, decide_false, reduceIte, Nat.reduceEqDiff, ite_true, ite_false, e1, e2, hv, List.find?_cons, List.find?_nil, Sum.inr.injEq, Option.map_some, ops_ne]
      · rw [← e4, if_neg (fun z => hv (e3.mpr z))]
        simp only [m_law_result, mb_law_result, mOwnD, mPutD, mGetD, mPCons, mPNil, keysP, toKey, mergeP, putP, valP, List.foldl_cons, List.foldl_nil, List.any_cons, List.any_nil, List.find?_cons, List.find?_nil, Sum.inr.injEq, Option.map_some, Bool.or_false, Bool.or_true, Bool.true_or, Bool.false_or, dIntC, runF, mSeq, seqS, mAsg, mBin, mUn, mVar, mC, mRet, mNext, mIfS, mTest, mTruth, mAnd, mOr, mNot, mAndV, mOrV, mNotV, mCl, mCons, mNil, mCall, mDrop, mDrI, mDrNe, mDrIx, mDrLen, mDrSet, mDrPop, drL, isDr0, toS, fName, R.lift, bind_ok, bind_err, bind_bad, eAdd, eSub, eMul, eDiv, eMod, ePow, eNeg, eLt, eLe, eGt, eGe, eEqI, eNeI, eEqS, eEqB, eNeB, eIdxL, eIdxT, eBool, eAbs, Bool.false_eq_true, dList, dTup, if_true, if_false, if_pos, List.map_cons, List.map_nil, List.length_cons, List.length_nil, List.replicate, List.cons_append, List.nil_append, List.getElem?_cons_zero, List.getElem?_cons_succ, List.set_cons_zero, List.set_cons_succ, Nat.reduceAdd, Nat.reduceSub, Nat.reduceLeDiff, Nat.reduceLT, Nat.reduceMul, Int.reduceToNat, Int.reduceEq, Int.reduceAdd, Int.reduceSub, Int.reduceNeg, Bool.not_true, Bool.not_false, decide_true, decide_false, reduceIte, Nat.reduceEqDiff, ite_true, ite_false, ops_ne, tw_2, m1, c1, c2, c2', c3, hz, d1, d3] at e1 e2 ⊢
        simp only [runF, mSeq, seqS, mAsg, mBin, mUn, mVar, mC, mRet, mNext, mIfS, mTest, mTruth, mAnd, mOr, mNot, mAndV, mOrV, mNotV, mCl, mCons, mNil, mCall, mDrop, mDrI, mDrNe, mDrIx, mDrLen, mDrSet, mDrPop, drL, isDr0, toS, fName, R.lift, bind_ok, bind_err, bind_bad, eAdd, eSub, eMul, eDiv, eMod, ePow, eNeg, eLt, eLe, eGt, eGe, eEqI, eNeI, eEqS, eEqB, eNeB, eIdxL, eIdxT, eBool, eAbs, Bool.false_eq_true, dList, dTup, if_true, if_false, if_pos, List.map_cons, List.map_nil, List.length_cons, List.length_nil, List.replicate, List.cons_append, List.nil_append, List.getElem?_cons_zero, List.getElem?_cons_succ, List.set_cons_zero, List.set_cons_succ, Nat.reduceAdd, Nat.reduceSub, Nat.reduceLeDiff, Nat.reduceLT, Nat.reduceMul, Int.reduceToNat, Int.reduceEq, Int.reduceAdd, Int.reduceSub, Int.reduceNeg, Bool.not_true, Bool.not_false, decide_true, decide_false, reduceIte, Nat.reduceEqDiff, ite_true, ite_false, e1, e2, hv, List.find?_cons, List.find?_nil, Sum.inr.injEq, Option.map_some, ops_ne]
theorem in_3 : dNotIn (.str "//") k_OPERATORS = some (.bl false) := rfl
theorem tw_3 : dIn (.str "//") (.tup [.str "//", .str "mod"]) = some (.bl true) := rfl
theorem ro_3 (A : Ad) {l r : Int} {s : Dr} (l0 : -(10 ^ 61) < l) (l1 : l < 10 ^ 61) (r0 : -(10 ^ 61) < r) (r1 : r < 10 ^ 61) (hr : r ≠ 0) : m_result_of A [.str "//", .int l, .int r] s = .ok (.int (l.fdiv r)) s := by
  have m1 : CMulG l r := mulG (by omega) (by omega) (by omega) (by omega)
  have d1 : CDivG l r := divG hr (by omega) (by omega)
  have d2 : CModG l r := hr
  simp only [m_result_of, mb_result_of, runF, mSeq, seqS, mAsg, mBin, mUn, mVar, mC, mRet, mNext, mIfS, mTest, mTruth, mAnd, mOr, mNot, mAndV, mOrV, mNotV, mCl, mCons, mNil, mCall, mDrop, mDrI, mDrNe, mDrIx, mDrLen, mDrSet, mDrPop, drL, isDr0, toS, fName, R.lift, bind_ok, bind_err, bind_bad, eAdd, eSub, eMul, eDiv, eMod, ePow, eNeg, eLt, eLe, eGt, eGe, eEqI, eNeI, eEqS, eEqB, eNeB, eIdxL, eIdxT, eBool, eAbs, Bool.false_eq_true, dList, dTup, if_true, if_false, if_pos, List.map_cons, List.map_nil, List.length_cons, List.length_nil, List.replicate, List.cons_append, List.nil_append, List.getElem?_cons_zero, List.getElem?_cons_succ, List.set_cons_zero, List.set_cons_succ, Nat.reduceAdd, Nat.reduceSub, Nat.reduceLeDiff, Nat.reduceLT, Nat.reduceMul, Int.reduceToNat, Int.reduceEq, Int.reduceAdd, Int.reduceSub, Int.reduceNeg, Bool.not_true, Bool.not_false, decide_true, decide_false, reduceIte, Nat.reduceEqDiff, ite_true, ite_false, ops_ne, dMin2, dMax2, dI2, dIntC, m1, d1, d2]
theorem lr_3 (A : Ad) {l r : Int} {s : Dr} (l0 : -(10 ^ 61) < l) (l1 : l < 10 ^ 61) (r0 : -(10 ^ 61) < r) (r1 : r < 10 ^ 61) (hr : r ≠ 0) (v0 : -(10 ^ 150) < (l.fdiv r)) (v1 : (l.fdiv r) < 10 ^ 150) : m_law_result A [.str "//", .int l, .int r] s = .ok (dv (l.fdiv r)) s := by
  have m1 : CMulG l r := mulG (by omega) (by omega) (by omega) (by omega)
  obtain ⟨a0, a1⟩ := av_b v0 v1
  obtain ⟨L, e1, e2, e3⟩ := lenStr a0 a1
  unfold av at e1 e2
  have e4 : (if 10 ^ 60 ≤ av (l.fdiv r) then D.str "overflow" else D.int (l.fdiv r)) = dv (l.fdiv r) := rfl
  have hv : 60 < L ∨ ¬ 60 < L := Decidable.em _
  have hz : decide (r = 0) = false := decide_eq_false hr
  have d1 : CDivG l r := divG hr (by omega) (by omega)
  have f := fdiv_b l0 l1 hr
  have d3 : CMulG r (l.fdiv r) := mulG (by omega) (by omega) (by omega) (by omega)
  refine tri l r (fun c1 c2 c2' c3 => ?_) (fun c1 c2 c2' c3 => ?_) (fun c1 c2 c2' c3 => ?_)
  · rcases hv with hv | hv
    · rw [← e4, if_pos (e3.mp hv)]
      simp only [m_law_result, mb_law_result, mOwnD, mPutD, mGetD, mPCons, mPNil, keysP, toKey, mergeP, putP, valP, List.foldl_cons, List.foldl_nil, List.any_cons, List.any_nil, List.find?_cons, List.find?_nil, Sum.inr.injEq, Option.map_some, Bool.or_false, Bool.or_true, Bool.true_or, Bool.false_or, dIntC, runF, mSeq, seqS, mAsg, mBin, mUn, mVar, mC, mRet, mNext, mIfS, mTest, mTruth, mAnd, mOr, mNot, mAndV, mOrV, mNotV, mCl, mCons, mNil, mCall, mDrop, mDrI, mDrNe, mDrIx, mDrLen, mDrSet, mDrPop, drL, isDr0, toS, fName, R.lift, bind_ok, bind_err, bind_bad, eAdd, eSub, eMul, eDiv, eMod, ePow, eNeg, eLt, eLe, eGt, eGe, eEqI, eNeI, eEqS, eEqB, eNeB, eIdxL, eIdxT, eBool, eAbs, Bool.false_eq_true, dList, dTup, if_true, if_false, if_pos, List.map_cons, List.map_nil, List.length_cons, List.length_nil, List.replicate, List.cons_append, List.nil_append, List.getElem?_cons_zero, List.getElem?_cons_succ, List.set_cons_zero, List.set_cons_succ, Nat.reduceAdd, Nat.reduceSub, Nat.reduceLeDiff, Nat.reduceLT, Nat.reduceMul, Int.reduceToNat, Int.reduceEq, Int.reduceAdd, Int.reduceSub, Int.reduceNeg, Bool.not_true, Bool.not_false, decide_true, decide_false, reduceIte, Nat.reduceEqDiff, ite_true, ite_false, ops_ne, tw_3, m1, c1, c2, c2', c3, hz, d1, d3] at e1 e2 ⊢
      simp only [runF, mSeq, seqS, mAsg, mBin, mUn, mVar, mC, mRet, mNext, mIfS, mTest, mTruth, mAnd, mOr, mNot, mAndV, mOrV, mNotV, mCl, mCons, mNil, mCall, mDrop, mDrI, mDrNe, mDrIx, mDrLen, mDrSet, mDrPop, drL, isDr0, toS, fName, R.lift, bind_ok, bind_err, bind_bad, eAdd, eSub, eMul, eDiv, eMod, ePow, eNeg, eLt, eLe, eGt, eGe, eEqI, eNeI, eEqS, eEqB, eNeB, eIdxL, eIdxT, eBool, eAbs, Bool.false_eq_true, dList, dTup, if_true, if_false, if_pos, List.map_cons, List.map_nil, List.length_cons, List.length_nil, List.replicate, List.cons_append, List.nil_append, List.getElem?_cons_zero, List.getElem?_cons_succ, List.set_cons_zero, List.set_cons_succ, Nat.reduceAdd, Nat.reduceSub, Nat.reduceLeDiff, Nat.reduceLT, Nat.reduceMul, Int.reduceToNat, Int.reduceEq, Int.reduceAdd, Int.reduceSub, Int.reduceNeg, Bool.not_true, Bool.not_false, decide_true, decide_false, reduceIte, Nat.reduceEqDiff, ite_true, ite_false, e1, e2, hv, List.find?_cons, List.find?_nil, Sum.inr.injEq, Option.map_some, ops_ne]
    · rw [← e4, if_neg (fun z => hv (e3.mpr z))]
      simp only [m_law_result, mb_law_result, mOwnD, mPutD, mGetD, mPCons, mPNil, keysP, toKey, mergeP, putP, valP, List.foldl_cons, List.foldl_nil, List.any_cons, List.any_nil, List.find?_cons, List.find?_nil, Sum.inr.injEq, Option.map_some, Bool.or_false, Bool.or_true, Bool.true_or, Bool.false_or, dIntC, runF, mSeq, seqS, mAsg, mBin, mUn, mVar, mC, mRet, mNext, mIfS, mTest, mTruth, mAnd, mOr, mNot, mAndV, mOrV, mNotV, mCl, mCons, mNil, mCall, mDrop, mDrI, mDrNe, mDrIx, mDrLen, mDrSet, mDrPop, drL, isDr0, toS, fName, R.lift, bind_ok, bind_err, bind_bad, eAdd, eSub, eMul, eDiv, eMod, ePow, eNeg, eLt, eLe, eGt, eGe, eEqI, eNeI, eEqS, eEqB, eNeB, eIdxL, eIdxT, eBool, eAbs, Bool.false_eq_true, dList, dTup, if_true, if_false, if_pos, List.map_cons, List.map_nil, List.length_cons, List.length_nil, List.replicate, List.cons_append, List.nil_append, List.getElem?_cons_zero, List.getElem?_cons_succ, List.set_cons_zero, List.set_cons_succ, Nat.reduceAdd, Nat.reduceSub, Nat.reduceLeDiff, Nat.reduceLT, Nat.reduceMul, Int.reduceToNat, Int.reduceEq, Int.reduceAdd, Int.reduceSub, Int.reduceNeg, Bool.not_true, Bool.not_false, decide_true, decide_false, reduceIte, Nat.reduceEqDiff, ite_true, ite_false, ops_ne, tw_3, m1, c1, c2, c2', c3, hz, d1, d3] at e1 e2 ⊢
      simp only [runF, mSeq, seqS, mAsg, mBin, mUn, mVar, mC, mRet, mNext, mIfS, mTest, mTruth, mAnd, mOr, mNot, mAndV, mOrV, mNotV, mCl, mCons, mNil, mCall, mDrop, mDrI, mDrNe, mDrIx, mDrLen, mDrSet, mDrPop, drL, isDr0, toS, fName, R.lift, bind_ok, bind_err, bind_bad, eAdd, eSub, eMul, eDiv, eMod, ePow, eNeg, eLt, eLe, eGt, eGe, eEqI, eNeI, eEqS, eEqB, eNeB, eIdxL, eIdxT, eBool, eAbs, Bool.false_eq_true, dList, dTup, if_true, if_false, if_pos, List.map_cons, List.map_nil, List.length_cons, List.length_nil, List.replicate, List.cons_append, List.nil_append, List.getElem?_cons_zero, List.getElem?_cons_succ, List.set_cons_zero, List.set_cons_succ, Nat.reduceAdd, Nat.reduceSub, Nat.reduceLeDiff, Nat.reduceLT, Nat.reduceMul, Int.reduceToNat, Int.reduceEq, Int.reduceAdd, Int.reduceSub, Int.reduceNeg, Bool.not_true, Bool.not_false, decide_true, decide_false, reduceIte, Nat.reduceEqDiff, ite_true, ite_false, e1, e2, hv, List.find?_cons, List.find?_nil, Sum.inr.injEq, Option.map_some, ops_ne]
  · rcases hv with hv | hv
    · rw [← e4, if_pos (e3.mp hv)]
      simp only [m_law_result, mb_law_result, mOwnD, mPutD, mGetD, mPCons, mPNil, keysP, toKey, mergeP, putP, valP, List.foldl_cons, List.foldl_nil, List.any_cons, List.any_nil, List.find?_cons, List.find?_nil, Sum.inr.injEq, Option.map_some, Bool.or_false, Bool.or_true, Bool.true_or, Bool.false_or, dIntC, runF, mSeq, seqS, mAsg, mBin, mUn, mVar, mC, mRet, mNext, mIfS, mTest, mTruth, mAnd, mOr, mNot, mAndV, mOrV, mNotV, mCl, mCons, mNil, mCall, mDrop, mDrI, mDrNe, mDrIx, mDrLen, mDrSet, mDrPop, drL, isDr0, toS, fName, R.lift, bind_ok, bind_err, bind_bad, eAdd, eSub, eMul, eDiv, eMod, ePow, eNeg, eLt, eLe, eGt, eGe, eEqI, eNeI, eEqS, eEqB, eNeB, eIdxL, eIdxT, eBool, eAbs, Bool.false_eq_true, dList, dTup, if_true, if_false, if_pos, List.map_cons, List.map_nil, List.length_cons, List.length_nil, List.replicate, List.cons_append, List.nil_append, List.getElem?_cons_zero, List.getElem?_cons_succ, List.set_cons_zero, List.set_cons_succ, Nat.reduceAdd, Nat.reduceSub, Nat.reduceLeDiff, Nat.reduceLT, Nat.reduceMul, Int.reduceToNat, Int.reduceEq, Int.reduceAdd, Int.reduceSub, Int.reduceNeg, Bool.not_true, Bool.not_false, decide_true, decide_false, reduceIte, Nat.reduceEqDiff, ite_true, ite_false, ops_ne, tw_3, m1, c1, c2, c2', c3, hz, d1, d3] at e1 e2 ⊢
      simp only [runF, mSeq, seqS, mAsg, mBin, mUn, mVar, mC, mRet, mNext, mIfS, mTest, mTruth, mAnd, mOr, mNot, mAndV, mOrV, mNotV, mCl, mCons, mNil, mCall, mDrop, mDrI, mDrNe, mDrIx, mDrLen, mDrSet, mDrPop, drL, isDr0, toS, fName, R.lift, bind_ok, bind_err, bind_bad, eAdd, eSub, eMul, eDiv, eMod, ePow, eNeg, eLt, eLe, eGt, eGe, eEqI, eNeI, eEqS, eEqB, eNeB, eIdxL, eIdxT, eBool, eAbs, Bool.false_eq_true, dList, dTup, if_true, if_false, if_pos, List.map_cons, List.map_nil, List.length_cons, List.length_nil, List.replicate, List.cons_append, List.nil_append, List.getElem?_cons_zero, List.getElem?_cons_succ, List.set_cons_zero, List.set_cons_succ, Nat.reduceAdd, Nat.reduceSub, Nat.reduceLeDiff, Nat.reduceLT, Nat.reduceMul, Int.reduceToNat, Int.reduceEq, Int.reduceAdd, Int.reduceSub, Int.reduceNeg, Bool.not_true, Bool.not_false, decide_true, decide_false, reduceIte, Nat.reduceEqDiff, ite_true, ite_false, e1, e2, hv, List.find?_cons, List.find?_nil, Sum.inr.injEq, Option.map_some, ops_ne]
    · rw [← e4, if_neg (fun z => hv (e3.mpr z))]
      simp only [m_law_result, mb_law_result, mOwnD, mPutD, mGetD, mPCons, mPNil, keysP, toKey, mergeP, putP, valP, List.foldl_cons, List.foldl_nil, List.any_cons, List.any_nil, List.find?_cons, List.find?_nil, Sum.inr.injEq, Option.map_some, Bool.or_false, Bool.or_true, Bool.true_or, Bool.false_or, dIntC, runF, mSeq, seqS, mAsg, mBin, mUn, mVar, mC, mRet, mNext, mIfS, mTest, mTruth, mAnd, mOr, mNot, mAndV, mOrV, mNotV, mCl, mCons, mNil, mCall, mDrop, mDrI, mDrNe, mDrIx, mDrLen, mDrSet, mDrPop, drL, isDr0, toS, fName, R.lift, bind_ok, bind_err, bind_bad, eAdd, eSub, eMul, eDiv, eMod, ePow, eNeg, eLt, eLe, eGt, eGe, eEqI, eNeI, eEqS, eEqB, eNeB, eIdxL, eIdxT, eBool, eAbs, Bool.false_eq_true, dList, dTup, if_true, if_false, if_pos, List.map_cons, List.map_nil, List.length_cons, List.length_nil, List.replicate, List.cons_append, List.nil_append, List.getElem?_cons_zero, List.getElem?_cons_succ, List.set_cons_zero, List.set_cons_succ, Nat.reduceAdd, Nat.reduceSub, Nat.reduceLeDiff, Nat.reduceLT, Nat.reduceMul, Int.reduceToNat, Int.reduceEq, Int.reduceAdd, Int.reduceSub, Int.reduceNeg, Bool.not_true, Bool.not_false, decide_true, decide_false, reduceIte, Nat.reduceEqDiff, ite_true, ite_false, ops_ne, tw_3, m1, c1, c2, c2', c3, hz, d1, d3] at e1 e2 ⊢
      simp only [runF, mSeq, seqS, mAsg, mBin, mUn, mVar, mC, mRet, mNext, mIfS, mTest, mTruth, mAnd, mOr, mNot, mAndV, mOrV, mNotV, mCl, mCons, mNil, mCall, mDrop, mDrI, mDrNe, mDrIx, mDrLen, mDrSet, mDrPop, drL, isDr0, toS, fName, R.lift, bind_ok, bind_err, bind_bad, eAdd, eSub, eMul, eDiv, eMod, ePow, eNeg, eLt, eLe, eGt, eGe, eEqI, eNeI, eEqS, eEqB, eNeB, eIdxL, eIdxT, eBool, eAbs, Bool.false_eq_true, dList, dTup, if_true, if_false, if_pos, List.map_cons, List.map_nil, List.length_cons, List.length_nil, List.replicate, List.cons_append, List.nil_append, List.getElem?_cons_zero, List.getElem?_cons_succ, List.set_cons_zero, List.set_cons_succ, Nat.reduceAdd, Nat.reduceSub, Nat.reduceLeDiff, Nat.reduceLT, Nat.reduceMul, Int.reduceToNat, Int.reduceEq, Int.reduceAdd, Int.reduceSub, Int.reduceNeg, Bool.not_true, Bool.not_false, decide_true, decide_false, reduceIte, Nat.reduceEqDiff, ite_true, ite_false, e1, e2, hv, List.find?_cons, List.find?_nil, Sum.inr.injEq, Option.map_some, ops_ne]
  · rcases hv with hv | hv
    · rw [← e4, if_pos (e3.mp hv)]
      simp only [m_law_result, mb_law_result, mOwnD, mPutD, mGetD, mPCons, mPNil, keysP, toKey, mergeP, putP, valP, List.foldl_cons, List.foldl_nil, List.any_cons, List.any_nil, List.find?_cons, List.find?_nil, Sum.inr.injEq, Option.map_some, Bool.or_false, Bool.or_true, Bool.true_or, Bool.false_or, dIntC, runF, mSeq, seqS, mAsg, mBin, mUn, mVar, mC, mRet, mNext, mIfS, mTest, mTruth, mAnd, mOr, mNot, mAndV, mOrV, mNotV, mCl, mCons, mNil, mCall, mDrop, mDrI, mDrNe, mDrIx, mDrLen, mDrSet, mDrPop, drL, isDr0, toS, fName, R.lift, bind_ok, bind_err, bind_bad, eAdd, eSub, eMul, eDiv, eMod, ePow, eNeg, eLt, eLe, eGt, eGe, eEqI, eNeI, eEqS, eEqB, eNeB, eIdxL, eIdxT, eBool, eAbs, Bool.false_eq_true, dList, dTup, if_true, if_false, if_pos, List.map_cons, List.map_nil, List.length_cons, List.length_nil, List.replicate, List.cons_append, List.nil_append, List.getElem?_cons_zero, List.getElem?_cons_succ, List.set_cons_zero, List.set_cons_succ, Nat.reduceAdd, Nat.reduceSub, Nat.reduceLeDiff, Nat.reduceLT, Nat.reduceMul, Int.reduceToNat, Int.reduceEq, Int.reduceAdd, Int.reduceSub, Int.reduceNeg, Bool.not_true, Bool.not_false, decide_true, decide_false, reduceIte, Nat.reduceEqDiff, ite_true, ite_false, ops_ne, tw_3, m1, c1, c2, c2', c3, hz, d1, d3] at e1 e2 ⊢
      simp only [runF, mSeq, seqS, mAsg, mBin, mUn, mVar, mC, mRet, mNext, mIfS, mTest, mTruth, mAnd, mOr, mNot, mAndV, mOrV, mNotV, mCl, mCons, mNil, mCall, mDrop, mDrI, mDrNe, mDrIx, mDrLen, mDrSet, mDrPop, drL, isDr0, toS, fName, R.lift, bind_ok, bind_err, bind_bad, eAdd, eSub, eMul, eDiv, eMod, ePow, eNeg, eLt, eLe, eGt, eGe, eEqI, eNeI, eEqS, eEqB, eNeB, eIdxL, eIdxT, eBool, eAbs, Bool.false_eq_true, dList, dTup, if_true, if_false, if_pos, List.map_cons, List.map_nil, List.length_cons, List.length_nil, List.replicate, List.cons_append, List.nil_append, List.getElem?_cons_zero, List.getElem?_cons_succ, List.set_cons_zero, List.set_cons_succ, Nat.reduceAdd, Nat.reduceSub, Nat.reduceLeDiff, Nat.reduceLT, Nat.reduceMul, Int.reduceToNat, Int.reduceEq, Int.reduceAdd, Int.reduceSub, Int.reduceNeg, Bool.not_true, Bool.not_false, decide_true, decide_false, reduceIte, Nat.reduceEqDiff, ite_true, ite_false, e1, e2, hv, List.find?_cons, List.find?_nil, Sum.inr.injEq, Option.map_some, ops_ne]
    · rw [← e4, if_neg (fun z => hv (e3.mpr z))]
      simp only [m_law_result, mb_law_result, mOwnD, mPutD, mGetD, mPCons, mPNil, keysP, toKey, mergeP, putP, valP, List.foldl_cons, List.foldl_nil, List.any_cons, List.any_nil, List.find?_cons, List.find?_nil, Sum.inr.injEq, Option.map_some, Bool.or_false, Bool.or_true, Bool.true_or, Bool.false_or, dIntC, runF, mSeq, seqS, mAsg, mBin, mUn, mVar, mC, mRet, mNext, mIfS, mTest, mTruth, mAnd, mOr, mNot, mAndV, mOrV, mNotV, mCl, mCons, mNil, mCall, mDrop, mDrI, mDrNe, mDrIx, mDrLen, mDrSet, mDrPop, drL, isDr0, toS, fName, R.lift, bind_ok, bind_err, bind_bad, eAdd, eSub, eMul, eDiv, eMod, ePow, eNeg, eLt, eLe, eGt, eGe, eEqI, eNeI, eEqS, eEqB, eNeB, eIdxL, eIdxT, eBool, eAbs, Bool.false_eq_true, dList, dTup, if_true, if_false, if_pos, List.map_cons, List.map_nil, List.length_cons, List.length_nil, List.replicate, List.cons_append, List.nil_append, List.getElem?_cons_zero, List.getElem?_cons_succ, List.set_cons_zero, List.set_cons_succ, Nat.reduceAdd, Nat.reduceSub, Nat.reduceLeDiff, Nat.reduceLT, Nat.reduceMul, Int.reduceToNat, Int.reduceEq, Int.reduceAdd, Int.reduceSub, Int.reduceNeg, Bool.not_true, Bool.not_false, decide_true, decide_false, reduceIte, Nat.reduceEqDiff, ite_true, ite_false, ops_ne, tw_3, m1, c1, c2, c2', c3, hz, d1, d3] at e1 e2 ⊢
      simp only [runF, mSeq, seqS, mAsg, mBin, mUn, mVar, mC, mRet, mNext, mIfS, mTest, mTruth, mAnd, mOr, mNot, mAndV, mOrV, mNotV, mCl, mCons, mNil, mCall, mDrop, mDrI, mDrNe, mDrIx, mDrLen, mDrSet, mDrPop, drL, isDr0, toS, fName, R.lift, bind_ok, bind_err, bind_bad, eAdd, eSub, eMul, eDiv, eMod, ePow, eNeg, eLt, eLe, eGt, eGe, eEqI, eNeI, eEqS, eEqB, eNeB, eIdxL, eIdxT, eBool, eAbs, Bool.false_eq_true, dList, dTup, if_true, if_false, if_pos, List.map_cons, List.map_nil, List.length_cons, List.length_nil, List.replicate, List.cons_append, List.nil_append, List.getElem?_cons_zero, List.getElem?_cons_succ, List.set_cons_zero, List.set_cons_succ, Nat.reduceAdd, Nat.reduceSub, Nat.reduceLeDiff, Nat.reduceLT, Nat.reduceMul, Int.reduceToNat, Int.reduceEq, Int.reduceAdd, Int.reduceSub, Int.reduceNeg, Bool.not_true, Bool.not_false, decide_true, decide_false, reduceIte, Nat.reduceEqDiff, ite_true, ite_false, e1, e2, hv, List.find?_cons, List.find?_nil, Sum.inr.injEq, Option.map_some, ops_ne]
theorem in_4 : dNotIn (.str "mod") k_OPERATORS = some (.bl false) := rfl
theorem tw_4 : dIn (.str "mod") (.tup [.str "//", .str "mod"]) = some (.bl true) := rfl
theorem ro_4 (A : Ad) {l r : Int} {s : Dr} (l0 : -(10 ^ 61) < l) (l1 : l < 10 ^ 61) (r0 : -(10 ^ 61) < r) (r1 : r < 10 ^ 61) (hr : r ≠ 0) : m_result_of A [.str "mod", .int l, .int r] s = .ok (.int (l.fmod r)) s := by
  have m1 : CMulG l r := mulG (by omega) (by omega) (by omega) (by omega)
  have d1 : CDivG l r := divG hr (by omega) (by omega)
  have d2 : CModG l r := hr
  simp only [m_result_of, mb_result_of, runF, mSeq, seqS, mAsg, mBin, mUn, mVar, mC, mRet, mNext, mIfS, mTest, mTruth, mAnd, mOr, mNot, mAndV, mOrV, mNotV, mCl, mCons, mNil, mCall, mDrop, mDrI, mDrNe, mDrIx, mDrLen, mDrSet, mDrPop, drL, isDr0, toS, fName, R.lift, bind_ok, bind_err, bind_bad, eAdd, eSub, eMul, eDiv, eMod, ePow, eNeg, eLt, eLe, eGt, eGe, eEqI, eNeI, eEqS, eEqB, eNeB, eIdxL, eIdxT, eBool, eAbs, Bool.false_eq_true, dList, dTup, if_true, if_false, if_pos, List.map_cons, List.map_nil, List.length_cons, List.length_nil, List.replicate, List.cons_append, List.nil_append, List.getElem?_cons_zero, List.getElem?_cons_succ, List.set_cons_zero, List.set_cons_succ, Nat.reduceAdd, Nat.reduceSub, Nat.reduceLeDiff, Nat.reduceLT, Nat.reduceMul, Int.reduceToNat, Int.reduceEq, Int.reduceAdd, Int.reduceSub, Int.reduceNeg, Bool.not_true, Bool.not_false, decide_true, decide_false, reduceIte, Nat.reduceEqDiff, ite_true, ite_false, ops_ne, dMin2, dMax2, dI2, dIntC, m1, d1, d2]
theorem lr_4 (A : Ad) {l r : Int} {s : Dr} (l0 : -(10 ^ 61) < l) (l1 : l < 10 ^ 61) (r0 : -(10 ^ 61) < r) (r1 : r < 10 ^ 61) (hr : r ≠ 0) (v0 : -(10 ^ 150) < (l.fmod r)) (v1 : (l.fmod r) < 10 ^ 150) : m_law_result A [.str "mod", .int l, .int r] s = .ok (dv (l.fmod r)) s := by
  have m1 : CMulG l r := mulG (by omega) (by omega) (by omega) (by omega)
  obtain ⟨a0, a1⟩ := av_b v0 v1
  obtain ⟨L, e1, e2, e3⟩ := lenStr a0 a1
  unfold av at e1 e2
  have e4 : (if 10 ^ 60 ≤ av (l.fmod r) then D.str "overflow" else D.int (l.fmod r)) = dv (l.fmod r) := rfl
  have hv : 60 < L ∨ ¬ 60 < L := Decidable.em _
  have fm : l.fmod r = l - r * l.fdiv r := Int.fmod_def l r
  rw [fm] at e1 e2 e4
  have hz : decide (r = 0) = false := decide_eq_false hr
  have d1 : CDivG l r := divG hr (by omega) (by omega)
  have f := fdiv_b l0 l1 hr
  have d3 : CMulG r (l.fdiv r) := mulG (by omega) (by omega) (by omega) (by omega)
  refine tri l r (fun c1 c2 c2' c3 => ?_) (fun c1 c2 c2' c3 => ?_) (fun c1 c2 c2' c3 => ?_)
  · rcases hv with hv | hv
    · rw [fm, ← e4, ← fm, if_pos (e3.mp hv)]
      simp only [m_law_result, mb_law_result, mOwnD, mPutD, mGetD, mPCons, mPNil, keysP, toKey, mergeP, putP, valP, List.foldl_cons, List.foldl_nil, List.any_cons, List.any_nil, List.find?_cons, List.find?_nil, Sum.inr.injEq, Option.map_some, Bool.or_false, Bool.or_true, Bool.true_or, Bool.false_or, dIntC, runF, mSeq, seqS, mAsg, mBin, mUn, mVar, mC, mRet, mNext, mIfS, mTest, mTruth, mAnd, mOr, mNot, mAndV, mOrV, mNotV, mCl, mCons, mNil, mCall, mDrop, mDrI, mDrNe, mDrIx, mDrLen, mDrSet, mDrPop, drL, isDr0, toS, fName, R.lift, bind_ok, bind_err, bind_bad, eAdd, eSub, eMul, eDiv, eMod, ePow, eNeg, eLt, eLe, eGt, eGe, eEqI, eNeI, eEqS, eEqB, eNeB, eIdxL, eIdxT, eBool, eAbs, Bool.false_eq_true, dList, dTup, if_true, if_false, if_pos, List.map_cons, List.map_nil, List.length_cons, List.length_nil, List.replicate, List.cons_append, List.nil_append, List.getElem?_cons_zero, List.getElem?_cons_succ, List.set_cons_zero, List.set_cons_succ, Nat.reduceAdd, Nat.reduceSub, Nat.reduceLeDiff, Nat.reduceLT, Nat.reduceMul, Int.reduceToNat, Int.reduceEq, Int.reduceAdd, Int.reduceSub, Int.reduceNeg, Bool.not_true, Bool.not_false, decide_true, decide_false, reduceIte, Nat.reduceEqDiff, ite_true, ite_false, ops_ne, tw_4, m1, c1, c2, c2', c3, hz, d1, d3] at e1 e2 ⊢
      simp only [runF, mSeq, seqS, mAsg, mBin, mUn, mVar, mC, mRet, mNext, mIfS, mTest, mTruth, mAnd, mOr, mNot, mAndV, mOrV, mNotV, mCl, mCons, mNil, mCall, mDrop, mDrI, mDrNe, mDrIx, mDrLen, mDrSet, mDrPop, drL, isDr0, toS, fName, R.lift, bind_ok, bind_err, bind_bad, eAdd, eSub, eMul, eDiv, eMod, ePow, eNeg, eLt, eLe, eGt, eGe, eEqI, eNeI, eEqS, eEqB, eNeB, eIdxL, eIdxT, eBool, eAbs, Bool.false_eq_true, dList, dTup, if_true, if_false, if_pos, List.map_cons, List.map_nil, List.length_cons, List.length_nil, List.replicate, List.cons_append, List.nil_append, List.getElem?_cons_zero, List.getElem?_cons_succ, List.set_cons_zero, List.set_cons_succ, Nat.reduceAdd, Nat.reduceSub, Nat.reduceLeDiff, Nat.reduceLT, Nat.reduceMul, Int.reduceToNat, Int.reduceEq, Int.reduceAdd, Int.reduceSub, Int.reduceNeg, Bool.not_true, Bool.not_false, decide_true, decide_false, reduceIte, Nat.reduceEqDiff, ite_true, ite_false, e1, e2, hv, List.find?_cons, List.find?_nil, Sum.inr.injEq, Option.map_some, ops_ne]
    · rw [fm, ← e4, ← fm, if_neg (fun z => hv (e3.mpr z))]
      simp only [m_law_result, mb_law_result, mOwnD, mPutD, mGetD, mPCons, mPNil, keysP, toKey, mergeP, putP, valP, List.foldl_cons, List.foldl_nil, List.any_cons, List.any_nil, List.find?_cons, List.find?_nil, Sum.inr.injEq, Option.map_some, Bool.or_false, Bool.or_true, Bool.true_or, Bool.false_or, dIntC, runF, mSeq, seqS, mAsg, mBin, mUn, mVar, mC, mRet, mNext, mIfS, mTest, mTruth, mAnd, mOr, mNot, mAndV, mOrV, mNotV, mCl, mCons, mNil, mCall, mDrop, mDrI, mDrNe, mDrIx, mDrLen, mDrSet, mDrPop, drL, isDr0, toS, fName, R.lift, bind_ok, bind_err, bind_bad, eAdd, eSub, eMul, eDiv, eMod, ePow, eNeg, eLt, eLe, eGt, eGe, eEqI, eNeI, eEqS, eEqB, eNeB, eIdxL, eIdxT, eBool, eAbs, Bool.false_eq_true, dList, dTup, if_true, if_false, if_pos, List.map_cons, List.map_nil, List.length_cons, List.length_nil, List.replicate, List.cons_append, List.nil_append, List.getElem?_cons_zero, List.getElem?_cons_succ, List.set_cons_zero, List.set_cons_succ, Nat.reduceAdd, Nat.reduceSub, Nat.reduceLeDiff, Nat.reduceLT, Nat.reduceMul, Int.reduceToNat, Int.reduceEq, Int.reduceAdd, Int.reduceSub, Int.reduceNeg, Bool.not_true, Bool.not_false, decide_true, decide_false, reduceIte, Nat.reduceEqDiff, ite_true, ite_false, ops_ne, tw_4, m1, c1, c2, c2', c3, hz, d1, d3] at e1 e2 ⊢
      simp only [runF, mSeq, seqS, mAsg, mBin, mUn, mVar, mC, mRet, mNext, mIfS, mTest, mTruth, mAnd, mOr, mNot, mAndV, mOrV, mNotV, mCl, mCons, mNil, mCall, mDrop, mDrI, mDrNe, mDrIx, mDrLen, mDrSet, mDrPop, drL, isDr0, toS, fName, R.lift, bind_ok, bind_err, bind_bad, eAdd, eSub, eMul, eDiv, eMod, ePow, eNeg, eLt, eLe, eGt, eGe, eEqI, eNeI, eEqS, eEqB, eNeB, eIdxL, eIdxT, eBool, eAbs, Bool.false_eq_true, dList, dTup, if_true, if_false, if_pos, List.map_cons, List.map_nil, List.length_cons, List.length_nil, List.replicate, List.cons_append, List.nil_append, List.getElem?_cons_zero, List.getElem?_cons_succ, List.set_cons_zero, List.set_cons_succ, Nat.reduceAdd, Nat.reduceSub, Nat.reduceLeDiff, Nat.reduceLT, Nat.reduceMul, Int.reduceToNat, Int.reduceEq, Int.reduceAdd, Int.reduceSub, Int.reduceNeg, Bool.not_true, Bool.not_false, decide_true, decide_false, reduceIte, Nat.reduceEqDiff, ite_true, ite_false, e1, e2, hv, List.find?_cons, List.find?_nil, Sum.inr.injEq, Option.map_some, ops_ne]
      rw [fm]
  · rcases hv with hv | hv
    · rw [fm, ← e4, ← fm, if_pos (e3.mp hv)]
      simp only [m_law_result, mb_law_result, mOwnD, mPutD, mGetD, mPCons, mPNil, keysP, toKey, mergeP, putP, valP, List.foldl_cons, List.foldl_nil, List.any_cons, List.any_nil, List.find?_cons, List.find?_nil, Sum.inr.injEq, Option.map_some, Bool.or_false, Bool.or_true, Bool.true_or, Bool.false_or, dIntC, runF, mSeq, seqS, mAsg, mBin, mUn, mVar, mC, mRet, mNext, mIfS, mTest, mTruth, mAnd, mOr, mNot, mAndV, mOrV, mNotV, mCl, mCons, mNil, mCall, mDrop, mDrI, mDrNe, mDrIx, mDrLen, mDrSet, mDrPop, drL, isDr0, toS, fName, R.lift, bind_ok, bind_err, bind_bad, eAdd, eSub, eMul, eDiv, eMod, ePow, eNeg, eLt, eLe, eGt, eGe, eEqI, eNeI, eEqS, eEqB, eNeB, eIdxL, eIdxT, eBool, eAbs, Bool.false_eq_true, dList, dTup, if_true, if_false, if_pos, List.map_cons, List.map_nil, List.length_cons, List.length_nil, List.replicate, List.cons_append, List.nil_append, List.getElem?_cons_zero, List.getElem?_cons_succ, List.set_cons_zero, List.set_cons_succ, Nat.reduceAdd, Nat.reduceSub, Nat.reduceLeDiff, Nat.reduceLT, Nat.reduceMul, Int.reduceToNat, Int.reduceEq, Int.reduceAdd, Int.reduceSub, Int.reduceNeg, Bool.not_true, Bool.not_false, decide_true, decide_false, reduceIte, Nat.reduceEqDiff, ite_true, ite_false, ops_ne, tw_4, m1, c1, c2, c2', c3, hz, d1, d3] at e1 e2 ⊢
      simp only [runF, mSeq, seqS, mAsg, mBin, mUn, mVar, mC, mRet, mNext, mIfS, mTest, mTruth, mAnd, mOr, mNot, mAndV, mOrV, mNotV, mCl, mCons, mNil, mCall, mDrop, mDrI, mDrNe, mDrIx, mDrLen, mDrSet, mDrPop, drL, isDr0, toS, fName, R.lift, bind_ok, bind_err, bind_bad, eAdd, eSub, eMul, eDiv, eMod, ePow, eNeg, eLt, eLe, eGt, eGe, eEqI, eNeI, eEqS, eEqB, eNeB, eIdxL, eIdxT, eBool, eAbs, Bool.false_eq_true, dList, dTup, if_true, if_false, if_pos, List.map_cons, List.map_nil, List.length_cons, List.length_nil, List.replicate, List.cons_append, List.nil_append, List.getElem?_cons_zero, List.getElem?_cons_succ, List.set_cons_zero, List.set_cons_succ, Nat.reduceAdd, Nat.reduceSub, Nat.reduceLeDiff, Nat.reduceLT, Nat.reduceMul, Int.reduceToNat, Int.reduceEq, Int.reduceAdd, Int.reduceSub, Int.reduceNeg, Bool.not_true, Bool.not_false, decide_true, decide_false, reduceIte, Nat.reduceEqDiff, ite_true, ite_false, e1, e2, hv, List.find?_cons, List.find?_nil, Sum.inr.injEq, Option.map_some, ops_ne]
    · rw [fm, ← e4, ← fm, if_neg (fun z => hv (e3.mpr z))]
      simp only [m_law_result, mb_law_result, mOwnD, mPutD, mGetD, mPCons, mPNil, keysP, toKey, mergeP, putP, valP, List.foldl_cons, List.foldl_nil, List.any_cons, List.any_nil, List.find?_cons, List.find?_nil, Sum.inr.injEq, Option.map_some, Bool.or_false, Bool.or_true, Bool.true_or, Bool.false_or, dIntC, runF, mSeq, seqS, mAsg, mBin, mUn, mVar, mC, mRet, mNext, mIfS, mTest, mTruth, mAnd, mOr, mNot, mAndV, mOrV, mNotV, mCl, mCons, mNil, mCall, mDrop, mDrI, mDrNe, mDrIx, mDrLen, mDrSet, mDrPop, drL, isDr0, toS, fName, R.lift, bind_ok, bind_err, bind_bad, eAdd, eSub, eMul, eDiv, eMod, ePow, eNeg, eLt, eLe, eGt, eGe, eEqI, eNeI, eEqS, eEqB, eNeB, eIdxL, eIdxT, eBool, eAbs, Bool.false_eq_true, dList, dTup, if_true, if_false, if_pos, List.map_cons, List.map_nil, List.length_cons, List.length_nil, List.replicate, List.cons_append, List.nil_append, List.getElem?_cons_zero, List.getElem?_cons_succ, List.set_cons_zero, List.set_cons_succ, Nat.reduceAdd, Nat.reduceSub, Nat.reduceLeDiff, Nat.reduceLT, Nat.reduceMul, Int.reduceToNat, Int.reduceEq, Int.reduceAdd, Int.reduceSub, Int.reduceNeg, Bool.not_true, Bool.not_false, decide_true, decide_false, reduceIte, Nat.reduceEqDiff, ite_true, ite_false, ops_ne, tw_4, m1, c1, c2, c2', c3, hz, d1, d3] at e1 e2 ⊢
      simp only [runF, mSeq, seqS, mAsg, mBin, mUn, mVar, mC, mRet, mNext, mIfS, mTest, mTruth, mAnd, mOr, mNot, mAndV, mOrV, mNotV, mCl, mCons, mNil, mCall, mDrop, mDrI, mDrNe, mDrIx, mDrLen, mDrSet, mDrPop, drL, isDr0, toS, fName, R.lift, bind_ok, bind_err, bind_bad, eAdd, eSub, eMul, eDiv, eMod, ePow, eNeg, eLt, eLe, eGt, eGe, eEqI, eNeI, eEqS, eEqB, eNeB, eIdxL, eIdxT, eBool, eAbs, Bool.false_eq_true, dList, dTup, if_true, if_false, if_pos, List.map_cons, List.map_nil, List.length_cons, List.length_nil, List.replicate, List.cons_append, List.nil_append, List.getElem?_cons_zero, List.getElem?_cons_succ, List.set_cons_zero, List.set_cons_succ, Nat.reduceAdd, Nat.reduceSub, Nat.reduceLeDiff, Nat.reduceLT, Nat.reduceMul, Int.reduceToNat, Int.reduceEq, Int.reduceAdd, Int.reduceSub, Int.reduceNeg, Bool.not_true, Bool.not_false, decide_true, decide_false, reduceIte, Nat.reduceEqDiff, ite_true, ite_false, e1, e2, hv, List.find?_cons, List.find?_nil, Sum.inr.injEq, Option.map_some, ops_ne]
      rw [fm]
  · rcases hv with hv | hv
    · rw [fm, ← e4, ← fm, if_pos (e3.mp hv)]
      simp only [m_law_result, mb_law_result, mOwnD, mPutD, mGetD, mPCons, mPNil, keysP, toKey, mergeP, putP, valP, List.foldl_cons, List.foldl_nil, List.any_cons, List.any_nil, List.find?_cons, List.find?_nil, Sum.inr.injEq, Option.map_some, Bool.or_false, Bool.or_true, Bool.true_or, Bool.false_or, dIntC, runF, mSeq, seqS, mAsg, mBin, mUn, mVar, mC, mRet, mNext, mIfS, mTest, mTruth, mAnd, mOr, mNot, mAndV, mOrV, mNotV, mCl, mCons, mNil, mCall, mDrop, mDrI, mDrNe, mDrIx, mDrLen, mDrSet, mDrPop, drL, isDr0, toS, fName, R.lift, bind_ok, bind_err, bind_bad, eAdd, eSub, eMul, eDiv, eMod, ePow, eNeg, eLt, eLe, eGt, eGe, eEqI, eNeI, eEqS, eEqB, eNeB, eIdxL, eIdxT, eBool, eAbs, Bool.false_eq_true, dList, dTup, if_true, if_false, if_pos, List.map_cons, List.map_nil, List.length_cons, List.length_nil, List.replicate, List.cons_append, List.nil_append, List.getElem?_cons_zero, List.getElem?_cons_succ, List.set_cons_zero, List.set_cons_succ, Nat.reduceAdd, Nat.reduceSub, Nat.reduceLeDiff, Nat.reduceLT, Nat.reduceMul, Int.reduceToNat, Int.reduceEq, Int.reduceAdd, Int.reduceSub, Int.reduceNeg, Bool.not_true, Bool.not_false, decide_true, decide_false, reduceIte, Nat.reduceEqDiff, ite_true, ite_false, ops_ne, tw_4, m1, c1, c2, c2', c3, hz, d1, d3] at e1 e2 ⊢
      simp only [runF, mSeq, seqS, mAsg, mBin, mUn, mVar, mC, mRet, mNext, mIfS, mTest, mTruth, mAnd, mOr, mNot, mAndV, mOrV, mNotV, mCl, mCons, mNil, mCall, mDrop, mDrI, mDrNe, mDrIx, mDrLen, mDrSet, mDrPop, drL, isDr0, toS, fName, R.lift, bind_ok, bind_err, bind_bad, eAdd, eSub, eMul, eDiv, eMod, ePow, eNeg, eLt, eLe, eGt, eGe, eEqI, eNeI, eEqS, eEqB, eNeB, eIdxL, eIdxT, eBool, eAbs, Bool.false_eq_true, dList, dTup, if_true, if_false, if_pos, List.map_cons, List.map_nil, List.length_cons, List.length_nil, List.replicate, List.cons_append, List.nil_append, List.getElem?_cons_zero, List.getElem?_cons_succ, List.set_cons_zero, List.set_cons_succ, Nat.reduceAdd, Nat.reduceSub, Nat.reduceLeDiff, Nat.reduceLT, Nat.reduceMul, Int.reduceToNat, Int.reduceEq, Int.reduceAdd, Int.reduceSub, Int.reduceNeg, Bool.not_true, Bool.not_false, decide_true, decide_false, reduceIte, Nat.reduceEqDiff, ite_true, ite_false, e1, e2, hv, List.find?_cons, List.find?_nil, Sum.inr.injEq, Option.map_some, ops_ne]
    · rw [fm, ← e4, ← fm, if_neg (fun z => hv (e3.mpr z))]
      simp only [m_law_result, mb_law_result, mOwnD, mPutD, mGetD, mPCons, mPNil, keysP, toKey, mergeP, putP, valP, List.foldl_cons, List.foldl_nil, List.any_cons, List.any_nil, List.find?_cons, List.find?_nil, Sum.inr.injEq, Option.map_some, Bool.or_false, Bool.or_true, Bool.true_or, Bool.false_or, dIntC, runF, mSeq, seqS, mAsg, mBin, mUn, mVar, mC, mRet, mNext, mIfS, mTest, mTruth, mAnd, mOr, mNot, mAndV, mOrV, mNotV, mCl, mCons, mNil, mCall, mDrop, mDrI, mDrNe, mDrIx, mDrLen, mDrSet, mDrPop, drL, isDr0, toS, fName, R.lift, bind_ok, bind_err, bind_bad, eAdd, eSub, eMul, eDiv, eMod, ePow, eNeg, eLt, eLe, eGt, eGe, eEqI, eNeI, eEqS, eEqB, eNeB, eIdxL, eIdxT, eBool, eAbs, Bool.false_eq_true, dList, dTup, if_true, if_false, if_pos, List.map_cons, List.map_nil, List.length_cons, List.length_nil, List.replicate, List.cons_append, List.nil_append, List.getElem?_cons_zero, List.getElem?_cons_succ, List.set_cons_zero, List.set_cons_succ, Nat.reduceAdd, Nat.reduceSub, Nat.reduceLeDiff, Nat.reduceLT, Nat.reduceMul, Int.reduceToNat, Int.reduceEq, Int.reduceAdd, Int.reduceSub, Int.reduceNeg, Bool.not_true, Bool.not_false, decide_true, decide_false, reduceIte, Nat.reduceEqDiff, ite_true, ite_false, ops_ne, tw_4, m1, c1, c2, c2', c3, hz, d1, d3] at e1 e2 ⊢
      simp only [runF, mSeq, seqS, mAsg, mBin, mUn, mVar, mC, mRet, mNext, mIfS, mTest, mTruth, mAnd, mOr, mNot, mAndV, mOrV, mNotV, mCl, mCons, mNil, mCall, mDrop, mDrI, mDrNe, mDrIx, mDrLen, mDrSet, mDrPop, drL, isDr0, toS, fName, R.lift, bind_ok, bind_err, bind_bad, eAdd, eSub, eMul, eDiv, eMod, ePow, eNeg, eLt, eLe, eGt, eGe, eEqI, eNeI, eEqS, eEqB, eNeB, eIdxL, eIdxT, eBool, eAbs, Bool.false_eq_true, dList, dTup, if_true, if_false, if_pos, List.map_cons, List.map_nil, List.length_cons, List.length_nil, List.replicate, List.cons_append, List.nil_append, List.getElem?_cons_zero, List.getElem?_cons_succ, List.set_cons_zero, List.set_cons_succ, Nat.reduceAdd, Nat.reduceSub, Nat.reduceLeDiff, Nat.reduceLT, Nat.reduceMul, Int.reduceToNat, Int.reduceEq, Int.reduceAdd, Int.reduceSub, Int.reduceNeg, Bool.not_true, Bool.not_false, decide_true, decide_false, reduceIte, Nat.reduceEqDiff, ite_true, ite_false, e1, e2, hv, List.find?_cons, List.find?_nil, Sum.inr.injEq, Option.map_some, ops_ne]
      rw [fm]
theorem in_5 : dNotIn (.str "min") k_OPERATORS = some (.bl false) := rfl
theorem tw_5 : dIn (.str "min") (.tup [.str "//", .str "mod"]) = some (.bl false) := rfl
theorem ro_5 (A : Ad) {l r : Int} {s : Dr} (l0 : -(10 ^ 61) < l) (l1 : l < 10 ^ 61) (r0 : -(10 ^ 61) < r) (r1 : r < 10 ^ 61) : m_result_of A [.str "min", .int l, .int r] s = .ok (.int (if r < l then r else l)) s := by
  have m1 : CMulG l r := mulG (by omega) (by omega) (by omega) (by omega)
  simp only [m_result_of, mb_result_of, runF, mSeq, seqS, mAsg, mBin, mUn, mVar, mC, mRet, mNext, mIfS, mTest, mTruth, mAnd, mOr, mNot, mAndV, mOrV, mNotV, mCl, mCons, mNil, mCall, mDrop, mDrI, mDrNe, mDrIx, mDrLen, mDrSet, mDrPop, drL, isDr0, toS, fName, R.lift, bind_ok, bind_err, bind_bad, eAdd, eSub, eMul, eDiv, eMod, ePow, eNeg, eLt, eLe, eGt, eGe, eEqI, eNeI, eEqS, eEqB, eNeB, eIdxL, eIdxT, eBool, eAbs, Bool.false_eq_true, dList, dTup, if_true, if_false, if_pos, List.map_cons, List.map_nil, List.length_cons, List.length_nil, List.replicate, List.cons_append, List.nil_append, List.getElem?_cons_zero, List.getElem?_cons_succ, List.set_cons_zero, List.set_cons_succ, Nat.reduceAdd, Nat.reduceSub, Nat.reduceLeDiff, Nat.reduceLT, Nat.reduceMul, Int.reduceToNat, Int.reduceEq, Int.reduceAdd, Int.reduceSub, Int.reduceNeg, Bool.not_true, Bool.not_false, decide_true, decide_false, reduceIte, Nat.reduceEqDiff, ite_true, ite_false, ops_ne, dMin2, dMax2, dI2, dIntC, m1]
theorem lr_5 (A : Ad) {l r : Int} {s : Dr} (l0 : -(10 ^ 61) < l) (l1 : l < 10 ^ 61) (r0 : -(10 ^ 61) < r) (r1 : r < 10 ^ 61) (v0 : -(10 ^ 150) < (if r < l then r else l)) (v1 : (if r < l then r else l) < 10 ^ 150) : m_law_result A [.str "min", .int l, .int r] s = .ok (dv (if r < l then r else l)) s := by
  have m1 : CMulG l r := mulG (by omega) (by omega) (by omega) (by omega)
  obtain ⟨a0, a1⟩ := av_b v0 v1
  obtain ⟨L, e1, e2, e3⟩ := lenStr a0 a1
  unfold av at e1 e2
  have e4 : (if 10 ^ 60 ≤ av (if r < l then r else l) then D.str "overflow" else D.int (if r < l then r else l)) = dv (if r < l then r else l) := rfl
  have hv : 60 < L ∨ ¬ 60 < L := Decidable.em _
  by_cases hr0 : r = 0
  · have hz : decide (r = 0) = true := decide_eq_true hr0
    refine tri l r (fun c1 c2 c2' c3 => ?_) (fun c1 c2 c2' c3 => ?_) (fun c1 c2 c2' c3 => ?_)
    · rcases hv with hv | hv
      · rw [← e4, if_pos (e3.mp hv)]
        simp only [m_law_result, mb_law_result, mOwnD, mPutD, mGetD, mPCons, mPNil, keysP, toKey, mergeP, putP, valP, List.foldl_cons, List.foldl_nil, List.any_cons, List.any_nil, List.find?_cons, List.find?_nil, Sum.inr.injEq, Option.map_some, Bool.or_false, Bool.or_true, Bool.true_or, Bool.false_or, dIntC, runF, mSeq, seqS, mAsg, mBin, mUn, mVar, mC, mRet, mNext, mIfS, mTest, mTruth, mAnd, mOr, mNot, mAndV, mOrV, mNotV, mCl, mCons, mNil, mCall, mDrop, mDrI, mDrNe, mDrIx, mDrLen, mDrSet, mDrPop, drL, isDr0, toS, fName, R.lift, bind_ok, bind_err, bind_bad, eAdd, eSub, eMul, eDiv, eMod, ePow, eNeg, eLt, eLe, eGt, eGe, eEqI, eNeI, eEqS, eEqB, eNeB, eIdxL, eIdxT, eBool, eAbs, Bool.false_eq_true, dList, dTup, if_true, if_false, if_pos, List.map_cons, List.map_nil, List.length_cons, List.length_nil, List.replicate, List.cons_append, List.nil_append, List.getElem?_cons_zero, List.getElem?_cons_succ, List.set_cons_zero, List.set_cons_succ, Nat.reduceAdd, Nat.reduceSub, Nat.reduceLeDiff, Nat.reduceLT, Nat.reduceMul, Int.reduceToNat, Int.reduceEq, Int.reduceAdd, Int.reduceSub, Int.reduceNeg, Bool.not_true, Bool.not_false, decide_true, decide_false, reduceIte, Nat.reduceEqDiff, ite_true, ite_false, ops_ne, tw_5, m1, c1, c2, c2', c3, hz] at e1 e2 ⊢
        simp only [runF, mSeq, seqS, mAsg, mBin, mUn, mVar, mC, mRet, mNext, mIfS, mTest, mTruth, mAnd, mOr, mNot, mAndV, mOrV, mNotV, mCl, mCons, mNil, mCall, mDrop, mDrI, mDrNe, mDrIx, mDrLen, mDrSet, mDrPop, drL, isDr0, toS, fName, R.lift, bind_ok, bind_err, bind_bad, eAdd, eSub, eMul, eDiv, eMod, ePow, eNeg, eLt, eLe, eGt, eGe, eEqI, eNeI, eEqS, eEqB, eNeB, eIdxL, eIdxT, eBool, eAbs, Bool.false_eq_true, dList, dTup, if_true, if_false, if_pos, List.map_cons, List.map_nil, List.length_cons, List.length_nil, List.replicate, List.cons_append, List.nil_append, List.getElem?_cons_zero, List.getElem?_cons_succ, List.set_cons_zero, List.set_cons_succ, Nat.reduceAdd, Nat.reduceSub, Nat.reduceLeDiff, Nat.reduceLT, Nat.reduceMul, Int.reduceToNat, Int.reduceEq, Int.reduceAdd, Int.reduceSub, Int.reduceNeg, Bool.not_true, Bool.not_false, decide_true, decide_false, reduceIte, Nat.reduceEqDiff, ite_true, ite_false, e1, e2, hv, List.find?_cons, List.find?_nil, Sum.inr.injEq, Option.map_some, ops_ne]
      · rw [← e4, if_neg (fun z => hv (e3.mpr z))]
        simp only [m_law_result, mb_law_result, mOwnD, mPutD, mGetD, mPCons, mPNil, keysP, toKey, mergeP, putP, valP, List.foldl_cons, List.foldl_nil, List.any_cons, List.any_nil, List.find?_cons, List.find?_nil, Sum.inr.injEq, Option.map_some, Bool.or_false, Bool.or_true, Bool.true_or, Bool.false_or, dIntC, runF, mSeq, seqS, mAsg, mBin, mUn, mVar, mC, mRet, mNext, mIfS, mTest, mTruth, mAnd, mOr, mNot, mAndV, mOrV, mNotV, mCl, mCons, mNil, mCall, mDrop, mDrI, mDrNe, mDrIx, mDrLen, mDrSet, mDrPop, drL, isDr0, toS, fName, R.lift, bind_ok, bind_err, bind_bad, eAdd, eSub, eMul, eDiv, eMod, ePow, eNeg, eLt, eLe, eGt, eGe, eEqI, eNeI, eEqS, eEqB, eNeB, eIdxL, eIdxT, eBool, eAbs, Bool.false_eq_true, dList, dTup, if_true, if_false, if_pos, List.map_cons, List.map_nil, List.length_cons, List.length_nil, List.replicate, List.cons_append, List.nil_append, List.getElem?_cons_zero, List.getElem?_cons_succ, List.set_cons_zero, List.set_cons_succ, Nat.reduceAdd, Nat.reduceSub, Nat.reduceLeDiff, Nat.reduceLT, Nat.reduceMul, Int.reduceToNat, Int.reduceEq, Int.reduceAdd, Int.reduceSub, Int.reduceNeg, Bool.not_true, Bool.not_false, decide_true, decide_false, reduceIte, Nat.reduceEqDiff, ite_true, ite_false, ops_ne, tw_5, m1, c1, c2, c2', c3, hz] at e1 e2 ⊢
        simp only [runF, mSeq, seqS, mAsg, mBin, mUn, mVar, mC, mRet, mNext, mIfS, mTest, mTruth, mAnd, mOr, mNot, mAndV, mOrV, mNotV, mCl, mCons, mNil, mCall, mDrop, mDrI, mDrNe, mDrIx, mDrLen, mDrSet, mDrPop, drL, isDr0, toS, fName, R.lift, bind_ok, bind_err, bind_bad, eAdd, eSub, eMul, eDiv, eMod, ePow, eNeg, eLt, eLe, eGt, eGe, eEqI, eNeI, eEqS, eEqB, eNeB, eIdxL, eIdxT, eBool, eAbs, Bool.false_eq_true, dList, dTup, if_true, if_false, if_pos, List.map_cons, List.map_nil, List.length_cons, List.length_nil, List.replicate, List.cons_append, List.nil_append, List.getElem?_cons_zero, List.getElem?_cons_succ, List.set_cons_zero, List.set_cons_succ, Nat.reduceAdd, Nat.reduceSub, Nat.reduceLeDiff, Nat.reduceLT, Nat.reduceMul, Int.reduceToNat, Int.reduceEq, Int.reduceAdd, Int.reduceSub, Int.reduceNeg, Bool.not_true, Bool.not_false, decide_true, decide_false, reduceIte, Nat.reduceEqDiff, ite_true, ite_false, e1, e2, hv, List.find?_cons, List.find?_nil, Sum.inr.injEq, Option.map_some, ops_ne]
    · rcases hv with hv | hv
      · rw [← e4, if_pos (e3.mp hv)]
        simp only [m_law_result, mb_law_result, mOwnD, mPutD, mGetD, mPCons, mPNil, keysP, toKey, mergeP, putP, valP, List.foldl_cons, List.foldl_nil, List.any_cons, List.any_nil, List.find?_cons, List.find?_nil, Sum.inr.injEq, Option.map_some, Bool.or_false, Bool.or_true, Bool.true_or, Bool.false_or, dIntC, runF, mSeq, seqS, mAsg, mBin, mUn, mVar, mC, mRet, mNext, mIfS, mTest, mTruth, mAnd, mOr, mNot, mAndV, mOrV, mNotV, mCl, mCons, mNil, mCall, mDrop, mDrI, mDrNe, mDrIx, mDrLen, mDrSet, mDrPop, drL, isDr0, toS, fName, R.lift, bind_ok, bind_err, bind_bad, eAdd, eSub, eMul, eDiv, eMod, ePow, eNeg, eLt, eLe, eGt, eGe, eEqI, eNeI, eEqS, eEqB, eNeB, eIdxL, eIdxT, eBool, eAbs, Bool.false_eq_true, dList, dTup, if_true, if_false, if_pos, List.map_cons, List.map_nil, List.length_cons, List.length_nil, List.replicate, List.cons_append, List.nil_append, List.getElem?_cons_zero, List.getElem?_cons_succ, List.set_cons_zero, List.set_cons_succ, Nat.reduceAdd, Nat.reduceSub, Nat.reduceLeDiff, Nat.reduceLT, Nat.reduceMul, Int.reduceToNat, Int.reduceEq, Int.reduceAdd, Int.reduceSub, Int.reduceNeg, Bool.not_true, Bool.not_false, decide_true, decide_false, reduceIte, Nat.reduceEqDiff, ite_true, ite_false, ops_ne, tw_5, m1, c1, c2, c2', c3, hz] at e1 e2 ⊢
        simp only [runF, mSeq, seqS, mAsg, mBin, mUn, mVar, mC, mRet, mNext, mIfS, mTest, mTruth, mAnd, mOr, mNot, mAndV, mOrV, mNotV, mCl, mCons, mNil, mCall, mDrop, mDrI, mDrNe, mDrIx, mDrLen, mDrSet, mDrPop, drL, isDr0, toS, fName, R.lift, bind_ok, bind_err, bind_bad, eAdd, eSub, eMul, eDiv, eMod, ePow, eNeg, eLt, eLe, eGt, eGe, eEqI, eNeI, eEqS, eEqB, eNeB, eIdxL, eIdxT, eBool, eAbs, Bool.false_eq_true, dList, dTup, if_true, if_false, if_pos, List.map_cons, List.map_nil, List.length_cons, List.length_nil, List.replicate, List.cons_append, List.nil_append, List.getElem?_cons_zero, List.getElem?_cons_succ, List.set_cons_zero, List.set_cons_succ, Nat.reduceAdd, Nat.reduceSub, Nat.reduceLeDiff, Nat.reduceLT, Nat.reduceMul, Int.reduceToNat, Int.reduceEq, Int.reduceAdd, Int.reduceSub, Int.reduceNeg, Bool.not_true, Bool.not_false, decide_true, decide_false, reduceIte, Nat.reduceEqDiff, ite_true, ite_false, e1, e2, hv, List.find?_cons, List.find?_nil, Sum.inr.injEq, Option.map_some, ops_ne]
      · rw [← e4, if_neg (fun z => hv (e3.mpr z))]
        simp only [m_law_result, mb_law_result, mOwnD, mPutD, mGetD, mPCons, mPNil, keysP, toKey, mergeP, putP, valP, List.foldl_cons, List.foldl_nil, List.any_cons, List.any_nil, List.find?_cons, List.find?_nil, Sum.inr.injEq, Option.map_some, Bool.or_false, Bool.or_true, Bool.true_or, Bool.false_or, dIntC, runF, mSeq, seqS, mAsg, mBin, mUn, mVar, mC, mRet, mNext, mIfS, mTest, mTruth, mAnd, mOr, mNot, mAndV, mOrV, mNotV, mCl, mCons, mNil, mCall, mDrop, mDrI, mDrNe, mDrIx, mDrLen, mDrSet, mDrPop, drL, isDr0, toS, fName, R.lift, bind_ok, bind_err, bind_bad, eAdd, eSub, eMul, eDiv, eMod, ePow, eNeg, eLt, eLe, eGt, eGe, eEqI, eNeI, eEqS, eEqB, eNeB, eIdxL, eIdxT, eBool, eAbs, Bool.false_eq_true, dList, dTup, if_true, if_false, if_pos, List.map_cons, List.map_nil, List.length_cons, List.length_nil, List.replicate, List.cons_append, List.nil_append, List.getElem?_cons_zero, List.getElem?_cons_succ, List.set_cons_zero, List.set_cons_succ, Nat.reduceAdd, Nat.reduceSub, Nat.reduceLeDiff, Nat.reduceLT, Nat.reduceMul, Int.reduceToNat, Int.reduceEq, Int.reduceAdd, Int.reduceSub, Int.reduceNeg, Bool.not_true, Bool.not_false, decide_true, decide_false, reduceIte, Nat.reduceEqDiff, ite_true, ite_false, ops_ne, tw_5, m1, c1, c2, c2', c3, hz] at e1 e2 ⊢
        simp only [runF, mSeq, seqS, mAsg, mBin, mUn, mVar, mC, mRet, mNext, mIfS, mTest, mTruth, mAnd, mOr, mNot, mAndV, mOrV, mNotV, mCl, mCons, mNil, mCall, mDrop, mDrI, mDrNe, mDrIx, mDrLen, mDrSet, mDrPop, drL, isDr0, toS, fName, R.lift, bind_ok, bind_err, bind_bad, eAdd, eSub, eMul, eDiv, eMod, ePow, eNeg, eLt, eLe, eGt, eGe, eEqI, eNeI, eEqS, eEqB, eNeB, eIdxL, eIdxT, eBool, eAbs, Bool.false_eq_true, dList, dTup, if_true, if_false, if_pos, List.map_cons, List.map_nil, List.length_cons, List.length_nil, List.replicate, List.cons_append, List.nil_append, List.getElem?_cons_zero, List.getElem?_cons_succ, List.set_cons_zero, List.set_cons_succ, Nat.reduceAdd, Nat.reduceSub, Nat.reduceLeDiff, Nat.reduceLT, Nat.reduceMul, Int.reduceToNat, Int.reduceEq, Int.reduceAdd, Int.reduceSub, Int.reduceNeg, Bool.not_true, Bool.not_false, decide_true, decide_false, reduceIte, Nat.reduceEqDiff, ite_true, ite_false, e1, e2, hv, List.find?_cons, List.find?_nil, Sum.inr.injEq, Option.map_some, ops_ne]
    · rcases hv with hv | hv
      · rw [← e4, if_pos (e3.mp hv)]
        simp only [m_law_result, mb_law_result, mOwnD, mPutD, mGetD, mPCons, mPNil, keysP, toKey, mergeP, putP, valP, List.foldl_cons, List.foldl_nil, List.any_cons, List.any_nil, List.find?_cons, List.find?_nil, Sum.inr.injEq, Option.map_some, Bool.or_false, Bool.or_true, Bool.true_or, Bool.false_or, dIntC, runF, mSeq, seqS, mAsg, mBin, mUn, mVar, mC, mRet, mNext, mIfS, mTest, mTruth, mAnd, mOr, mNot, mAndV, mOrV, mNotV, mCl, mCons, mNil, mCall, mDrop, mDrI, mDrNe, mDrIx, mDrLen, mDrSet, mDrPop, drL, isDr0, toS, fName, R.lift, bind_ok, bind_err, bind_bad, eAdd, eSub, eMul, eDiv, eMod, ePow, eNeg, eLt, eLe, eGt, eGe, eEqI, eNeI, eEqS, eEqB, eNeB, eIdxL, eIdxT, eBool, eAbs, Bool.false_eq_true, dList, dTup, if_true, if_false, if_pos, List.map_cons, List.map_nil, List.length_cons, List.length_nil, List.replicate, List.cons_append, List.nil_append, List.getElem?_cons_zero, List.getElem?_cons_succ, List.set_cons_zero, List.set_cons_succ, Nat.reduceAdd, Nat.reduceSub, Nat.reduceLeDiff, Nat.reduceLT, Nat.reduceMul, Int.reduceToNat, Int.reduceEq, Int.reduceAdd, Int.reduceSub, Int.reduceNeg, Bool.not_true, Bool.not_false, decide_true, decide_false, reduceIte, Nat.reduceEqDiff, ite_true, ite_false, ops_ne, tw_5, m1, c1, c2, c2', c3, hz] at e1 e2 ⊢
        simp only [runF, mSeq, seqS, mAsg, mBin, mUn, mVar, mC, mRet, mNext, mIfS, mTest, mTruth, mAnd, mOr, mNot, mAndV, mOrV, mNotV, mCl, mCons, mNil, mCall, mDrop, mDrI, mDrNe, mDrIx, mDrLen, mDrSet, mDrPop, drL, isDr0, toS, fName, R.lift, bind_ok, bind_err, bind_bad, eAdd, eSub, eMul, eDiv, eMod, ePow, eNeg, eLt, eLe, eGt, eGe, eEqI, eNeI, eEqS, eEqB, eNeB, eIdxL, eIdxT, eBool, eAbs, Bool.false_eq_true, dList, dTup, if_true, if_false, if_pos, List.map_cons, List.map_nil, List.length_cons, List.length_nil, List.replicate, List.cons_append, List.nil_append, List.getElem?_cons_zero, List.getElem?_cons_succ, List.set_cons_zero, List.set_cons_succ, Nat.reduceAdd, Nat.reduceSub, Nat.reduceLeDiff, Nat.reduceLT, Nat.reduceMul, Int.reduceToNat, Int.reduceEq, Int.reduceAdd, Int.reduceSub, Int.reduceNeg, Bool.not_true, Bool.not_false, decide_true, decide_false, reduceIte, Nat.reduceEqDiff, ite_true, ite_false, e1, e2, hv, List.find?_cons, List.find?_nil, Sum.inr.injEq, Option.map_some, ops_ne]
      · rw [← e4, if_neg (fun z => hv (e3.mpr z))]
        simp only [m_law_result, mb_law_result, mOwnD, mPutD, mGetD, mPCons, mPNil, keysP, toKey, mergeP, putP, valP, List.foldl_cons, List.foldl_nil, List.any_cons, List.any_nil, List.find?_cons, List.find?_nil, Sum.inr.injEq, Option.map_some, Bool.or_false, Bool.or_true, Bool.true_or, Bool.false_or, dIntC, runF, mSeq, seqS, mAsg, mBin, mUn, mVar, mC, mRet, mNext, mIfS, mTest, mTruth, mAnd, mOr, mNot, mAndV, mOrV, mNotV, mCl, mCons, mNil, mCall, mDrop, mDrI, mDrNe, mDrIx, mDrLen, mDrSet, mDrPop, drL, isDr0, toS, fName, R.lift, bind_ok, bind_err, bind_bad, eAdd, eSub, eMul, eDiv, eMod, ePow, eNeg, eLt, eLe, eGt, eGe, eEqI, eNeI, eEqS, eEqB, eNeB, eIdxL, eIdxT, eBool, eAbs, Bool.false_eq_true, dList, dTup, if_true, if_false, if_pos, List.map_cons, List.map_nil, List.length_cons, List.length_nil, List.replicate, List.cons_append, List.nil_append, List.getElem?_cons_zero, List.getElem?_cons_succ, List.set_cons_zero, List.set_cons_succ, Nat.reduceAdd, Nat.reduceSub, Nat.reduceLeDiff, Nat.reduceLT, Nat.reduceMul, Int.reduceToNat, Int.reduceEq, Int.reduceAdd, Int.reduceSub, Int.reduceNeg, Bool.not_true, Bool.not_false, decide_true, decide_false, reduceIte, Nat.reduceEqDiff, ite_true, ite_false, ops_ne, tw_5, m1, c1, c2, c2', c3, hz] at e1 e2 ⊢
        simp only [runF, mSeq, seqS, mAsg, mBin, mUn, mVar, mC, mRet, mNext, mIfS, mTest, mTruth, mAnd, mOr, mNot, mAndV, mOrV, mNotV, mCl, mCons, mNil, mCall, mDrop, mDrI, mDrNe, mDrIx, mDrLen, mDrSet, mDrPop, drL, isDr0, toS, fName, R.lift, bind_ok, bind_err, bind_bad, eAdd, eSub, eMul, eDiv, eMod, ePow, eNeg, eLt, eLe, eGt, eGe, eEqI, eNeI, eEqS, eEqB, eNeB, eIdxL, eIdxT, eBool, eAbs, Bool.false_eq_true, dList, dTup, if_true, if_false, if_pos, List.map_cons, List.map_nil, List.length_cons, List.length_nil, List.replicate, List.cons_append, List.nil_append, List.getElem?_cons_zero, List.getElem?_cons_succ, List.set_cons_zero, List.set_cons_succ, Nat.reduceAdd, Nat.reduceSub, Nat.reduceLeDiff, Nat.reduceLT, Nat.reduceMul, Int.reduceToNat, Int.reduceEq, Int.reduceAdd, Int.reduceSub, Int.reduceNeg, Bool.not_true, Bool.not_false, decide_true, decide_false, reduceIte, Nat.reduceEqDiff, ite_true, ite_false, e1, e2, hv, List.find?_cons, List.find?_nil, Sum.inr.injEq, Option.map_some, ops_ne]
  · have hz : decide (r = 0) = false := decide_eq_false hr0
    have d1 : CDivG l r := divG hr0 (by omega) (by omega)
    have f := fdiv_b l0 l1 hr0
    have d3 : CMulG r (l.fdiv r) := mulG (by omega) (by omega) (by omega) (by omega)
    refine tri l r (fun c1 c2 c2' c3 => ?_) (fun c1 c2 c2' c3 => ?_) (fun c1 c2 c2' c3 => ?_)
    · rcases hv with hv | hv
      · rw [← e4, if_pos (e3.mp hv)]
        simp only [m_law_result, mb_law_result, mOwnD, mPutD, mGetD, mPCons, mPNil, keysP, toKey, mergeP, putP, valP, List.foldl_cons, List.foldl_nil, List.any_cons, List.any_nil, List.find?_cons, List.find?_nil, Sum.inr.injEq, Option.map_some, Bool.or_false, Bool.or_true, Bool.true_or, Bool.false_or, dIntC, runF, mSeq, seqS, mAsg, mBin, mUn, mVar, mC, mRet, mNext, mIfS, mTest, mTruth, mAnd, mOr, mNot, mAndV, mOrV, mNotV, mCl, mCons, mNil, mCall, mDrop, mDrI, mDrNe, mDrIx, mDrLen, mDrSet, mDrPop, drL, isDr0, toS, fName, R.lift, bind_ok, bind_err, bind_bad, eAdd, eSub, eMul, eDiv, eMod, ePow, eNeg, eLt, eLe, eGt, eGe, eEqI, eNeI, eEqS, eEqB, eNeB, eIdxL, eIdxT, eBool, eAbs, Bool.false_eq_true, dList, dTup, if_true, if_false, if_pos, List.map_cons, List.map_nil, List.length_cons, List.length_nil, List.replicate, List.cons_append, List.nil_append, List.getElem?_cons_zero, List.getElem?_cons_succ, List.set_cons_zero, List.set_cons_succ, Nat.reduceAdd, Nat.reduceSub, Nat.reduceLeDiff, Nat.reduceLT, Nat.reduceMul, Int.reduceToNat, Int.reduceEq, Int.reduceAdd, Int.reduceSub, Int.reduceNeg, Bool.not_true, Bool.not_false, decide_true, decide_false, reduceIte, Nat.reduceEqDiff, ite_true, ite_false, ops_ne, tw_5, m1, c1, c2, c2', c3, hz, d1, d3] at e1 e2 ⊢
        simp only [runF, mSeq, seqS, mAsg, mBin, mUn, mVar, mC, mRet, mNext, mIfS, mTest, mTruth, mAnd, mOr, mNot, mAndV, mOrV, mNotV, mCl, mCons, mNil, mCall, mDrop, mDrI, mDrNe, mDrIx, mDrLen, mDrSet, mDrPop, drL, isDr0, toS, fName, R.lift, bind_ok, bind_err, bind_bad, eAdd, eSub, eMul, eDiv, eMod, ePow, eNeg, eLt, eLe, eGt, eGe, eEqI, eNeI, eEqS, eEqB, eNeB, eIdxL, eIdxT, eBool, eAbs, Bool.false_eq_true, dList, dTup, if_true, if_false, if_pos, List.map_cons, List.map_nil, List.length_cons, List.length_nil, List.replicate, List.cons_append, List.nil_append, List.getElem?_cons_zero, List.getElem?_cons_succ, List.set_cons_zero, List.set_cons_succ, Nat.reduceAdd, Nat.reduceSub, Nat.reduceLeDiff, Nat.reduceLT, Nat.reduceMul, Int.reduceToNat, Int.reduceEq, Int.reduceAdd, Int.reduceSub, Int.reduceNeg, Bool.not_true, Bool.not_false, decide_true, decide_false, reduceIte, Nat.reduceEqDiff, ite_true, ite_false, e1, e2, hv, List.find?_cons, List.find?_nil, Sum.inr.injEq, Option.map_some, ops_ne]
      · rw [← e4, if_neg (fun z => hv (e3.mpr z))]
        simp only [m_law_result, mb_law_result, mOwnD, mPutD, mGetD, mPCons, mPNil, keysP, toKey, mergeP, putP, valP, List.foldl_cons, List.foldl_nil, List.any_cons, List.any_nil, List.find?_cons, List.find?_nil, Sum.inr.injEq, Option.map_some, Bool.or_false, Bool.or_true, Bool.true_or, Bool.false_or, dIntC, runF, mSeq, seqS, mAsg, mBin, mUn, mVar, mC, mRet, mNext, mIfS, mTest, mTruth, mAnd, mOr, mNot, mAndV, mOrV, mNotV, mCl, mCons, mNil, mCall, mDrop, mDrI, mDrNe, mDrIx, mDrLen, mDrSet, mDrPop, drL, isDr0, toS, fName, R.lift, bind_ok, bind_err, bind_bad, eAdd, eSub, eMul, eDiv, eMod, ePow, eNeg, eLt, eLe, eGt, eGe, eEqI, eNeI, eEqS, eEqB, eNeB, eIdxL, eIdxT, eBool, eAbs, Bool.false_eq_true, dList, dTup, if_true, if_false, if_pos, List.map_cons, List.map_nil, List.length_cons, List.length_nil, List.replicate, List.cons_append, List.nil_append, List.getElem?_cons_zero, List.getElem?_cons_succ, List.set_cons_zero, List.set_cons_succ, Nat.reduceAdd, Nat.reduceSub, Nat.reduceLeDiff, Nat.reduceLT, Nat.reduceMul, Int.reduceToNat, Int.reduceEq, Int.reduceAdd, Int.reduceSub, Int.reduceNeg, Bool.not_true, Bool.not_false, decide_true, decide_false, reduceIte, Nat.reduceEqDiff, ite_true, ite_false, ops_ne, tw_5, m1, c1, c2, c2', c3, hz, d1, d3] at e1 e2 ⊢
        simp only [runF, mSeq, seqS, mAsg, mBin, mUn, mVar, mC, mRet, mNext, mIfS, mTest, mTruth, mAnd, mOr, mNot, mAndV, mOrV, mNotV, mCl, mCons, mNil, mCall, mDrop, mDrI, mDrNe, mDrIx, mDrLen, mDrSet, mDrPop, drL, isDr0, toS, fName, R.lift, bind_ok, bind_err, bind_bad, eAdd, eSub, eMul, eDiv, eMod, ePow, eNeg, eLt, eLe, eGt, eGe, eEqI, eNeI, eEqS, eEqB, eNeB, eIdxL, eIdxT, eBool, eAbs, Bool.false_eq_true, dList, dTup, if_true, if_false, if_pos, List.map_cons, List.map_nil, List.length_cons, List.length_nil, List.replicate, List.cons_append, List.nil_append, List.getElem?_cons_zero, List.getElem?_cons_succ, List.set_cons_zero, List.set_cons_succ, Nat.reduceAdd, Nat.reduceSub, Nat.reduceLeDiff, Nat.reduceLT, Nat.reduceMul, Int.reduceToNat, Int.reduceEq, Int.reduceAdd, Int.reduceSub, Int.reduceNeg, Bool.not_true, Bool.not_false, decide_true, decide_false, reduceIte, Nat.reduceEqDiff, ite_true, ite_false, e1, e2, hv, List.find?_cons, List.find?_nil, Sum.inr.injEq, Option.map_some, ops_ne]
    · rcases hv with hv | hv
      · rw [← e4, if_pos (e3.mp hv)]
        simp only [m_law_result, mb_law_result, mOwnD, mPutD, mGetD, mPCons, mPNil, keysP, toKey, mergeP, putP, valP, List.foldl_cons, List.foldl_nil, List.any_cons, List.any_nil, List.find?_cons, List.find?_nil, Sum.inr.injEq, Option.map_some, Bool.or_false, Bool.or_true, Bool.true_or, Bool.false_or, dIntC, runF, mSeq, seqS, mAsg, mBin, mUn, mVar, mC, mRet, mNext, mIfS, mTest, mTruth, mAnd, mOr, mNot, mAndV, mOrV, mNotV, mCl, mCons, mNil, mCall, mDrop, mDrI, mDrNe, mDrIx, mDrLen, mDrSet, mDrPop, drL, isDr0, toS, fName, R.lift, bind_ok, bind_err, bind_bad, eAdd, eSub, eMul, eDiv, eMod, ePow, eNeg, eLt, eLe, eGt, eGe, eEqI, eNeI, eEqS, eEqB, eNeB, eIdxL, eIdxT, eBool, eAbs, Bool.false_eq_true, dList, dTup, if_true, if_false, if_pos, List.map_cons, List.map_nil, List.length_cons, List.length_nil, List.replicate, List.cons_append, List.nil_append, List.getElem?_cons_zero, List.getElem?_cons_succ, List.set_cons_zero, List.set_cons_succ, Nat.reduceAdd, Nat.reduceSub, Nat.reduceLeDiff, Nat.reduceLT, Nat.reduceMul, Int.reduceToNat, Int.reduceEq, Int.reduceAdd, Int.reduceSub, Int.reduceNeg, Bool.not_true, Bool.not_false, decide_true, decide_false, reduceIte, Nat.reduceEqDiff, ite_true, ite_false, ops_ne, tw_5, m1, c1, c2, c2', c3, hz, d1, d3] at e1 e2 ⊢
        simp only [runF, mSeq, seqS, mAsg, mBin, mUn, mVar, mC, mRet, mNext, mIfS, mTest, mTruth, mAnd, mOr, mNot, mAndV, mOrV, mNotV, mCl, mCons, mNil, mCall, mDrop, mDrI, mDrNe, mDrIx, mDrLen, mDrSet, mDrPop, drL, isDr0, toS, fName, R.lift, bind_ok, bind_err, bind_bad, eAdd, eSub, eMul, eDiv, eMod, ePow, eNeg, eLt, eLe, eGt, eGe, eEqI, eNeI, eEqS, eEqB, eNeB, eIdxL, eIdxT, eBool, eAbs, Bool.false_eq_true, dList, dTup, if_true, if_false, if_pos, List.map_cons, List.map_nil, List.length_cons, List.length_nil, List.replicate, List.cons_append, List.nil_append, List.getElem?_cons_zero, List.getElem?_cons_succ, List.set_cons_zero, List.set_cons_succ, Nat.reduceAdd, Nat.reduceSub, Nat.reduceLeDiff, Nat.reduceLT, Nat.reduceMul, Int.reduceToNat, Int.reduceEq, Int.reduceAdd, Int.reduceSub, Int.reduceNeg, Bool.not_true, Bool.not_false, decide_true, decide_false, reduceIte, Nat.reduceEqDiff, ite_true, ite_false, e1, e2, hv, List.find?_cons, List.find?_nil, Sum.inr.injEq, Option.map_some, ops_ne]
      · rw [← e4, if_neg (fun z => hv (e3.mpr z))]
        simp only [m_law_result, mb_law_result, mOwnD, mPutD, mGetD, mPCons, mPNil, keysP, toKey, mergeP, putP, valP, List.foldl_cons, List.foldl_nil, List.any_cons, List.any_nil, List.find?_cons, List.find?_nil, Sum.inr.injEq, Option.map_some, Bool.or_false, Bool.or_true, Bool.true_or, Bool.false_or, dIntC, runF, mSeq, seqS, mAsg, mBin, mUn, mVar, mC, mRet, mNext, mIfS, mTest, mTruth, mAnd, mOr, mNot, mAndV, mOrV, mNotV, mCl, mCons, mNil, mCall, mDrop, mDrI, mDrNe, mDrIx, mDrLen, mDrSet, mDrPop, drL, isDr0, toS, fName, R.lift, bind_ok, bind_err, bind_bad, eAdd, eSub, eMul, eDiv, eMod, ePow, eNeg, eLt, eLe, eGt, eGe, eEqI, eNeI, eEqS, eEqB, eNeB, eIdxL, eIdxT, eBool, eAbs, Bool.false_eq_true, dList, dTup, if_true, if_false, if_pos, List.map_cons, List.map_nil, List.length_cons, List.length_nil, List.replicate, List.cons_append, List.nil_append, List.getElem?_cons_zero, List.getElem?_cons_succ, List.set_cons_zero, List.set_cons_succ, Nat.reduceAdd, Nat.reduceSub, Nat.reduceLeDiff, Nat.reduceLT, Nat.reduceMul, Int.reduceToNat, Int.reduceEq, Int.reduceAdd, Int.reduceSub, Int.reduceNeg, Bool.not_true, Bool.not_false, decide_true, decide_false, reduceIte, Nat.reduceEqDiff, ite_true, ite_false, ops_ne, tw_5, m1, c1, c2, c2', c3, hz, d1, d3] at e1 e2 ⊢
        simp only [runF, mSeq, seqS, mAsg, mBin, mUn, mVar, mC, mRet, mNext, mIfS, mTest, mTruth, mAnd, mOr, mNot, mAndV, mOrV, mNotV, mCl, mCons, mNil, mCall, mDrop, mDrI, mDrNe, mDrIx, mDrLen, mDrSet, mDrPop, drL, isDr0, toS, fName, R.lift, bind_ok, bind_err, bind_bad, eAdd, eSub, eMul, eDiv, eMod, ePow, eNeg, eLt, eLe, eGt, eGe, eEqI, eNeI, eEqS, eEqB, eNeB, eIdxL, eIdxT, eBool, eAbs, Bool.false_eq_true, dList, dTup, if_true, if_false, if_pos, List.map_cons, List.map_nil, List.length_cons, List.length_nil, List.replicate, List.cons_append, List.nil_append, List.getElem?_cons_zero, List.getElem?_cons_succ, List.set_cons_zero, List.set_cons_succ, Nat.reduceAdd, Nat.reduceSub, Nat.reduceLeDiff, Nat.reduceLT, Nat.reduceMul, Int.reduceToNat, Int.reduceEq, Int.reduceAdd, Int.reduceSub, Int.reduceNeg, Bool.not_true, Bool.not_false, decide_true, decide_false, reduceIte, Nat.reduceEqDiff, ite_true, ite_false, e1, e2, hv, List.find?_cons, List.find?_nil, Sum.inr.injEq, Option.map_some, ops_ne]
    · rcases hv with hv | hv
      · rw [← e4, if_pos (e3.mp hv)]
        simp only [m_law_result, mb_law_result, mOwnD, mPutD, mGetD, mPCons, mPNil, keysP, toKey, mergeP, putP, valP, List.foldl_cons, List.foldl_nil, List.any_cons, List.any_nil, List.find?_cons, List.find?_nil, Sum.inr.injEq, Option.map_some, Bool.or_false, Bool.or_true, Bool.true_or, Bool.false_or, dIntC, runF, mSeq, seqS, mAsg, mBin, mUn, mVar, mC, mRet, mNext, mIfS, mTest, mTruth, mAnd, mOr, mNot, mAndV, mOrV, mNotV, mCl, mCons, mNil, mCall, mDrop, mDrI, mDrNe, mDrIx, mDrLen, mDrSet, mDrPop, drL, isDr0, toS, fName, R.lift, bind_ok, bind_err, bind_bad, eAdd, eSub, eMul, eDiv, eMod, ePow, eNeg, eLt, eLe, eGt, eGe, eEqI, eNeI, eEqS, eEqB, eNeB, eIdxL, eIdxT, eBool, eAbs, Bool.false_eq_true, dList, dTup, if_true, if_false, if_pos, List.map_cons, List.map_nil, List.length_cons, List.length_nil, List.replicate, List.cons_append, List.nil_append, List.getElem?_cons_zero, List.getElem?_cons_succ, List.set_cons_zero, List.set_cons_succ, Nat.reduceAdd, Nat.reduceSub, Nat.reduceLeDiff, Nat.reduceLT, Nat.reduceMul, Int.reduceToNat, Int.reduceEq, Int.reduceAdd, Int.reduceSub, Int.reduceNeg, Bool.not_true, Bool.not_false, decide_true, decide_false, reduceIte, Nat.reduceEqDiff, ite_true, ite_false, ops_ne, tw_5, m1, c1, c2, c2', c3, hz, d1, d3] at e1 e2 ⊢
        simp only [runF, mSeq, seqS, mAsg, mBin, mUn, mVar, mC, mRet, mNext, mIfS, mTest, mTruth, mAnd, mOr, mNot, mAndV, mOrV, mNotV, mCl, mCons, mNil, mCall, mDrop, mDrI, mDrNe, mDrIx, mDrLen, mDrSet, mDrPop, drL, isDr0, toS, fName, R.lift, bind_ok, bind_err, bind_bad, eAdd, eSub, eMul, eDiv, eMod, ePow, eNeg, eLt, eLe, eGt, eGe, eEqI, eNeI, eEqS, eEqB, eNeB, eIdxL, eIdxT, eBool, eAbs, Bool.false_eq_true, dList, dTup, if_true, if_false, if_pos, List.map_cons, List.map_nil, List.length_cons, List.length_nil, List.replicate, List.cons_append, List.nil_append, List.getElem?_cons_zero, List.getElem?_cons_succ, List.set_cons_zero, List.set_cons_succ, Nat.reduceAdd, Nat.reduceSub, Nat.reduceLeDiff, Nat.reduceLT, Nat.reduceMul, Int.reduceToNat, Int.reduceEq, Int.reduceAdd, Int.reduceSub, Int.reduceNeg, Bool.not_true, Bool.not_false, decide_true, decide_false, reduceIte, Nat.reduceEqDiff, ite_true, ite_false, e1, e2, hv, List.find?_cons, List.find?_nil, Sum.inr.injEq, Option.map_some, ops_ne]
      · rw [← e4, if_neg (fun z => hv (e3.mpr z))]
        simp only [m_law_result, mb_law_result, mOwnD, mPutD, mGetD, mPCons, mPNil, keysP, toKey, mergeP, putP, valP, List.foldl_cons, List.foldl_nil, List.any_cons, List.any_nil, List.find?_cons, List.find?_nil, Sum.inr.injEq, Option.map_some, Bool.or_false, Bool.or_true, Bool.true_or, Bool.false_or, dIntC, runF, mSeq, seqS, mAsg, mBin, mUn, mVar, mC, mRet, mNext, mIfS, mTest, mTruth, mAnd, mOr, mNot, mAndV, mOrV, mNotV, mCl, mCons, mNil, mCall, mDrop, mDrI, mDrNe, mDrIx, mDrLen, mDrSet, mDrPop, drL, isDr0, toS, fName, R.lift, bind_ok, bind_err, bind_bad, eAdd, eSub, eMul, eDiv, eMod, ePow, eNeg, eLt, eLe, eGt, eGe, eEqI, eNeI, eEqS, eEqB, eNeB, eIdxL, eIdxT, eBool, eAbs, Bool.false_eq_true, dList, dTup, if_true, if_false, if_pos, List.map_cons, List.map_nil, List.length_cons, List.length_nil, List.replicate, List.cons_append, List.nil_append, List.getElem?_cons_zero, List.getElem?_cons_succ, List.set_cons_zero, List.set_cons_succ, Nat.reduceAdd, Nat.reduceSub, Nat.reduceLeDiff, Nat.reduceLT, Nat.reduceMul, Int.reduceToNat, Int.reduceEq, Int.reduceAdd, Int.reduceSub, Int.reduceNeg, Bool.not_true, Bool.not_false, decide_true, decide_false, reduceIte, Nat.reduceEqDiff, ite_true, ite_false, ops_ne, tw_5, m1, c1, c2, c2', c3, hz, d1, d3] at e1 e2 ⊢
        simp only [runF, mSeq, seqS, mAsg, mBin, mUn, mVar, mC, mRet, mNext, mIfS, mTest, mTruth, mAnd, mOr, mNot, mAndV, mOrV, mNotV, mCl, mCons, mNil, mCall, mDrop, mDrI, mDrNe, mDrIx, mDrLen, mDrSet, mDrPop, drL, isDr0, toS, fName, R.lift, bind_ok, bind_err, bind_bad, eAdd, eSub, eMul, eDiv, eMod, ePow, eNeg, eLt, eLe, eGt, eGe, eEqI, eNeI, eEqS, eEqB, eNeB, eIdxL, eIdxT, eBool, eAbs, Bool.false_eq_true, dList, dTup, if_true, if_false, if_pos, List.map_cons, List.map_nil, List.length_cons, List.length_nil, List.replicate, List.cons_append, List.nil_append, List.getElem?_cons_zero, List.getElem?_cons_succ, List.set_cons_zero, List.set_cons_succ, Nat.reduceAdd, Nat.reduceSub, Nat.reduceLeDiff, Nat.reduceLT, Nat.reduceMul, Int.reduceToNat, Int.reduceEq, Int.reduceAdd, Int.reduceSub, Int.reduceNeg, Bool.not_true, Bool.not_false, decide_true, decide_false, reduceIte, Nat.reduceEqDiff, ite_true, ite_false, e1, e2, hv, List.find?_cons, List.find?_nil, Sum.inr.injEq, Option.map_some, ops_ne]
theorem in_6 : dNotIn (.str "max") k_OPERATORS = some (.bl false) := rfl
theorem tw_6 : dIn (.str "max") (.tup [.str "//", .str "mod"]) = some (.bl false) := rfl
theorem ro_6 (A : Ad) {l r : Int} {s : Dr} (l0 : -(10 ^ 61) < l) (l1 : l < 10 ^ 61) (r0 : -(10 ^ 61) < r) (r1 : r < 10 ^ 61) : m_result_of A [.str "max", .int l, .int r] s = .ok (.int (if r > l then r else l)) s := by
  have m1 : CMulG l r := mulG (by omega) (by omega) (by omega) (by omega)
  simp only [m_result_of, mb_result_of, runF, mSeq, seqS, mAsg, mBin, mUn, mVar, mC, mRet, mNext, mIfS, mTest, mTruth, mAnd, mOr, mNot, mAndV, mOrV, mNotV, mCl, mCons, mNil, mCall, mDrop, mDrI, mDrNe, mDrIx, mDrLen, mDrSet, mDrPop, drL, isDr0, toS, fName, R.lift, bind_ok, bind_err, bind_bad, eAdd, eSub, eMul, eDiv, eMod, ePow, eNeg, eLt, eLe, eGt, eGe, eEqI, eNeI, eEqS, eEqB, eNeB, eIdxL, eIdxT, eBool, eAbs, Bool.false_eq_true, dList, dTup, if_true, if_false, if_pos, List.map_cons, List.map_nil, List.length_cons, List.length_nil, List.replicate, List.cons_append, List.nil_append, List.getElem?_cons_zero, List.getElem?_cons_succ, List.set_cons_zero, List.set_cons_succ, Nat.reduceAdd, Nat.reduceSub, Nat.reduceLeDiff, Nat.reduceLT, Nat.reduceMul, Int.reduceToNat, Int.reduceEq, Int.reduceAdd, Int.reduceSub, Int.reduceNeg, Bool.not_true, Bool.not_false, decide_true, decide_false, reduceIte, Nat.reduceEqDiff, ite_true, ite_false, ops_ne, dMin2, dMax2, dI2, dIntC, m1]
theorem lr_6 (A : Ad) {l r : Int} {s : Dr} (l0 : -(10 ^ 61) < l) (l1 : l < 10 ^ 61) (r0 : -(10 ^ 61) < r) (r1 : r < 10 ^ 61) (v0 : -(10 ^ 150) < (if r > l then r else l)) (v1 : (if r > l then r else l) < 10 ^ 150) : m_law_result A [.str "max", .int l, .int r] s = .ok (dv (if r > l then r else l)) s := by
  have m1 : CMulG l r := mulG (by omega) (by omega) (by omega) (by omega)
  obtain ⟨a0, a1⟩ := av_b v0 v1
  obtain ⟨L, e1, e2, e3⟩ := lenStr a0 a1
  unfold av at e1 e2
  have e4 : (if 10 ^ 60 ≤ av (if r > l then r else l) then D.str "overflow" else D.int (if r > l then r else l)) = dv (if r > l then r else l) := rfl
  have hv : 60 < L ∨ ¬ 60 < L := Decidable.em _
  by_cases hr0 : r = 0
  · have hz : decide (r = 0) = true := decide_eq_true hr0
    refine tri l r (fun c1 c2 c2' c3 => ?_) (fun c1 c2 c2' c3 => ?_) (fun c1 c2 c2' c3 => ?_)
    · rcases hv with hv | hv
      · rw [← e4, if_pos (e3.mp hv)]
        simp only [m_law_result, mb_law_result, mOwnD, mPutD, mGetD, mPCons, mPNil, keysP, toKey, mergeP, putP, valP, List.foldl_cons, List.foldl_nil, List.any_cons, List.any_nil, List.find?_cons, List.find?_nil, Sum.inr.injEq, Option.map_some, Bool.or_false, Bool.or_true, Bool.true_or, Bool.false_or, dIntC, runF, mSeq, seqS, mAsg, mBin, mUn, mVar, mC, mRet, mNext, mIfS, mTest, mTruth, mAnd, mOr, mNot, mAndV, mOrV, mNotV, mCl, mCons, mNil, mCall, mDrop, mDrI, mDrNe, mDrIx, mDrLen, mDrSet, mDrPop, drL, isDr0, toS, fName, R.lift, bind_ok, bind_err, bind_bad, eAdd, eSub, eMul, eDiv, eMod, ePow, eNeg, eLt, eLe, eGt, eGe, eEqI, eNeI, eEqS, eEqB, eNeB, eIdxL, eIdxT, eBool, eAbs, Bool.false_eq_true, dList, dTup, if_true, if_false, if_pos, List.map_cons, List.map_nil, List.length_cons, List.length_nil, List.replicate, List.cons_append, List.nil_append, List.getElem?_cons_zero, List.getElem?_cons_succ, List.set_cons_zero, List.set_cons_succ, Nat.reduceAdd, Nat.reduceSub, Nat.reduceLeDiff, Nat.reduceLT, Nat.reduceMul, Int.reduceToNat, Int.reduceEq, Int.reduceAdd, Int.reduceSub, Int.reduceNeg, Bool.not_true, Bool.not_false, decide_true, decide_false, reduceIte, Nat.reduceEqDiff, ite_true, ite_false, ops_ne, tw_6, m1, c1, c2, c2', c3, hz] at e1 e2 ⊢
        simp only [runF, mSeq, seqS, mAsg, mBin, mUn, mVar, mC, mRet, mNext, mIfS, mTest, mTruth, mAnd, mOr, mNot, mAndV, mOrV, mNotV, mCl, mCons, mNil, mCall, mDrop, mDrI, mDrNe, mDrIx, mDrLen, mDrSet, mDrPop, drL, isDr0, toS, fName, R.lift, bind_ok, bind_err, bind_bad, eAdd, eSub, eMul, eDiv, eMod, ePow, eNeg, eLt, eLe, eGt, eGe, eEqI, eNeI, eEqS, eEqB, eNeB, eIdxL, eIdxT, eBool, eAbs, Bool.false_eq_true, dList, dTup, if_true, if_false, if_pos, List.map_cons, List.map_nil, List.length_cons, List.length_nil, List.replicate, List.cons_append, List.nil_append, List.getElem?_cons_zero, List.getElem?_cons_succ, List.set_cons_zero, List.set_cons_succ, Nat.reduceAdd, Nat.reduceSub, Nat.reduceLeDiff, Nat.reduceLT, Nat.reduceMul, Int.reduceToNat, Int.reduceEq, Int.reduceAdd, Int.reduceSub, Int.reduceNeg, Bool.not_true, Bool.not_false, decide_true, decide_false, reduceIte, Nat.reduceEqDiff, ite_true, ite_false, e1, e2, hv, List.find?_cons, List.find?_nil, Sum.inr.injEq, Option.map_some, ops_ne]
      · rw [← e4, if_neg (fun z => hv (e3.mpr z))]
        simp only [m_law_result, mb_law_result, mOwnD, mPutD, mGetD, mPCons, mPNil, keysP, toKey, mergeP, putP, valP, List.foldl_cons, List.foldl_nil, List.any_cons, List.any_nil, List.find?_cons, List.find?_nil, Sum.inr.injEq, Option.map_some, Bool.or_false, Bool.or_true, Bool.true_or, Bool.false_or, dIntC, runF, mSeq, seqS, mAsg, mBin, mUn, mVar, mC, mRet, mNext, mIfS, mTest, mTruth, mAnd, mOr, mNot, mAndV, mOrV, mNotV, mCl, mCons, mNil, mCall, mDrop, mDrI, mDrNe, mDrIx, mDrLen, mDrSet, mDrPop, drL, isDr0, toS, fName, R.lift, bind_ok, bind_err, bind_bad, eAdd, eSub, eMul, eDiv, eMod, ePow, eNeg, eLt, eLe, eGt, eGe, eEqI, eNeI, eEqS, eEqB, eNeB, eIdxL, eIdxT, eBool, eAbs, Bool.false_eq_true, dList, dTup, if_true, if_false, if_pos, List.map_cons, List.map_nil, List.length_cons, List.length_nil, List.replicate, List.cons_append, List.nil_append, List.getElem?_cons_zero, List.getElem?_cons_succ, List.set_cons_zero, List.set_cons_succ, Nat.reduceAdd, Nat.reduceSub, Nat.reduceLeDiff, Nat.reduceLT, Nat.reduceMul, Int.reduceToNat, Int.reduceEq, Int.reduceAdd, Int.reduceSub, Int.reduceNeg, Bool.not_true, Bool.not_false, decide_true, decide_false, reduceIte, Nat.reduceEqDiff, ite_true, ite_false, ops_ne, tw_6, m1, c1, c2, c2', c3, hz] at e1 e2 ⊢
        simp only [runF, mSeq, seqS, mAsg, mBin, mUn, mVar, mC, mRet, mNext, mIfS, mTest, mTruth, mAnd, mOr, mNot, mAndV, mOrV, mNotV, mCl, mCons, mNil, mCall, mDrop, mDrI, mDrNe, mDrIx, mDrLen, mDrSet, mDrPop, drL, isDr0, toS, fName, R.lift, bind_ok, bind_err, bind_bad, eAdd, eSub, eMul, eDiv, eMod, ePow, eNeg, eLt, eLe, eGt, eGe, eEqI, eNeI, eEqS, eEqB, eNeB, eIdxL, eIdxT, eBool, eAbs, Bool.false_eq_true, dList, dTup, if_true, if_false, if_pos, List.map_cons, List.map_nil, List.length_cons, List.length_nil, List.replicate, List.cons_append, List.nil_append, List.getElem?_cons_zero, List.getElem?_cons_succ, List.set_cons_zero, List.set_cons_succ, Nat.reduceAdd, Nat.reduceSub, Nat.reduceLeDiff, Nat.reduceLT, Nat.reduceMul, Int.reduceToNat, Int.reduceEq, Int.reduceAdd, Int.reduceSub, Int.reduceNeg, Bool.not_true, Bool.not_false, decide_true, decide_false, reduceIte, Nat.reduceEqDiff, ite_true, ite_false, e1, e2, hv, List.find?_cons, List.find?_nil, Sum.inr.injEq, Option.map_some, ops_ne]
    · rcases hv with hv | hv
      · rw [← e4, if_pos (e3.mp hv)]
        simp only [m_law_result, mb_law_result, mOwnD, mPutD, mGetD, mPCons, mPNil, keysP, toKey, mergeP, putP, valP, List.foldl_cons, List.foldl_nil, List.any_cons, List.any_nil, List.find?_cons, List.find?_nil, Sum.inr.injEq, Option.map_some, Bool.or_false, Bool.or_true, Bool.true_or, Bool.false_or, dIntC, runF, mSeq, seqS, mAsg, mBin, mUn, mVar, mC, mRet, mNext, mIfS, mTest, mTruth, mAnd, mOr, mNot, mAndV, mOrV, mNotV, mCl, mCons, mNil, mCall, mDrop, mDrI, mDrNe, mDrIx, mDrLen, mDrSet, mDrPop, drL, isDr0, toS, fName, R.lift, bind_ok, bind_err, bind_bad, eAdd, eSub, eMul, eDiv, eMod, ePow, eNeg, eLt, eLe, eGt, eGe, eEqI, eNeI, eEqS, eEqB, eNeB, eIdxL, eIdxT, eBool, eAbs, Bool.false_eq_true, dList, dTup, if_true, if_false, if_pos, List.map_cons, List.map_nil, List.length_cons, List.length_nil, List.replicate, List.cons_append, List.nil_append, List.getElem?_cons_zero, List.getElem?_cons_succ, List.set_cons_zero, List.set_cons_succ, Nat.reduceAdd, Nat.reduceSub, Nat.reduceLeDiff, Nat.reduceLT, Nat.reduceMul, Int.reduceToNat, Int.reduceEq, Int.reduceAdd, Int.reduceSub, Int.reduceNeg, Bool.not_true, Bool.not_false, decide_true, decide_false, reduceIte, Nat.reduceEqDiff, ite_true, ite_false, ops_ne, tw_6, m1, c1, c2, c2', c3, hz] at e1 e2 ⊢
        simp only [runF, mSeq, seqS, mAsg, mBin, mUn, mVar, mC, mRet, mNext, mIfS, mTest, mTruth, mAnd, mOr, mNot, mAndV, mOrV, mNotV, mCl, mCons, mNil, mCall, mDrop, mDrI, mDrNe, mDrIx, mDrLen, mDrSet, mDrPop, drL, isDr0, toS, fName, R.lift, bind_ok, bind_err, bind_bad, eAdd, eSub, eMul, eDiv, eMod, ePow, eNeg, eLt, eLe, eGt, eGe, eEqI, eNeI, eEqS, eEqB, eNeB, eIdxL, eIdxT, eBool, eAbs, Bool.false_eq_true, dList, dTup, if_true, if_false, if_pos, List.map_cons, List.map_nil, List.length_cons, List.length_nil, List.replicate, List.cons_append, List.nil_append, List.getElem?_cons_zero, List.getElem?_cons_succ, List.set_cons_zero, List.set_cons_succ, Nat.reduceAdd, Nat.reduceSub, Nat.reduceLeDiff, Nat.reduceLT, Nat.reduceMul, Int.reduceToNat, Int.reduceEq, Int.reduceAdd, Int.reduceSub, Int.reduceNeg, Bool.not_true, Bool.not_false, decide_true, decide_false, reduceIte, Nat.reduceEqDiff, ite_true, ite_false, e1, e2, hv, List.find?_cons, List.find?_nil, Sum.inr.injEq, Option.map_some, ops_ne]
      · rw [← e4, if_neg (fun z => hv (e3.mpr z))]
        simp only [m_law_result, mb_law_result, mOwnD, mPutD, mGetD, mPCons, mPNil, keysP, toKey, mergeP, putP, valP, List.foldl_cons, List.foldl_nil, List.any_cons, List.any_nil, List.find?_cons, List.find?_nil, Sum.inr.injEq, Option.map_some, Bool.or_false, Bool.or_true, Bool.true_or, Bool.false_or, dIntC, runF, mSeq, seqS, mAsg, mBin, mUn, mVar, mC, mRet, mNext, mIfS, mTest, mTruth, mAnd, mOr, mNot, mAndV, mOrV, mNotV, mCl, mCons, mNil, mCall, mDrop, mDrI, mDrNe, mDrIx, mDrLen, mDrSet, mDrPop, drL, isDr0, toS, fName, R.lift, bind_ok, bind_err, bind_bad, eAdd, eSub, eMul, eDiv, eMod, ePow, eNeg, eLt, eLe, eGt, eGe, eEqI, eNeI, eEqS, eEqB, eNeB, eIdxL, eIdxT, eBool, eAbs, Bool.false_eq_true, dList, dTup, if_true, if_false, if_pos, List.map_cons, List.map_nil, List.length_cons, List.length_nil, List.replicate, List.cons_append, List.nil_append, List.getElem?_cons_zero, List.getElem?_cons_succ, List.set_cons_zero, List.set_cons_succ, Nat.reduceAdd, Nat.reduceSub, Nat.reduceLeDiff, Nat.reduceLT, Nat.reduceMul, Int.reduceToNat, Int.reduceEq, Int.reduceAdd, Int.reduceSub, Int.reduceNeg, Bool.not_true, Bool.not_false, decide_true, decide_false, reduceIte, Nat.reduceEqDiff, ite_true, ite_false, ops_ne, tw_6, m1, c1, c2, c2', c3, hz] at e1 e2 ⊢
        simp only [runF, mSeq, seqS, mAsg, mBin, mUn, mVar, mC, mRet, mNext, mIfS, mTest, mTruth, mAnd, mOr, mNot, mAndV, mOrV, mNotV, mCl, mCons, mNil, mCall, mDrop, mDrI, mDrNe, mDrIx, mDrLen, mDrSet, mDrPop, drL, isDr0, toS, fName, R.lift, bind_ok, bind_err, bind_bad, eAdd, eSub, eMul, eDiv, eMod, ePow, eNeg, eLt, eLe, eGt, eGe, eEqI, eNeI, eEqS, eEqB, eNeB, eIdxL, eIdxT, eBool, eAbs, Bool.false_eq_true, dList, dTup, if_true, if_false, if_pos, List.map_cons, List.map_nil, List.length_cons, List.length_nil, List.replicate, List.cons_append, List.nil_append, List.getElem?_cons_zero, List.getElem?_cons_succ, List.set_cons_zero, List.set_cons_succ, Nat.reduceAdd, Nat.reduceSub, Nat.reduceLeDiff, Nat.reduceLT, Nat.reduceMul, Int.reduceToNat, Int.reduceEq, Int.reduceAdd, Int.reduceSub, Int.reduceNeg, Bool.not_true, Bool.not_false, decide_true, decide_false, reduceIte, Nat.reduceEqDiff, ite_true, ite_false, e1, e2, hv, List.find?_cons, List.find?_nil, Sum.inr.injEq, Option.map_some, ops_ne]
    · rcases hv with hv | hv
      · rw [← e4, if_pos (e3.mp hv)]
        simp only [m_law_result, mb_law_result, mOwnD, mPutD, mGetD, mPCons, mPNil, keysP, toKey, mergeP, putP, valP, List.foldl_cons, List.foldl_nil, List.any_cons, List.any_nil, List.find?_cons, List.find?_nil, Sum.inr.injEq, Option.map_some, Bool.or_false, Bool.or_true, Bool.true_or, Bool.false_or, dIntC, runF, mSeq, seqS, mAsg, mBin, mUn, mVar, mC, mRet, mNext, mIfS, mTest, mTruth, mAnd, mOr, mNot, mAndV, mOrV, mNotV, mCl, mCons, mNil, mCall, mDrop, mDrI, mDrNe, mDrIx, mDrLen, mDrSet, mDrPop, drL, isDr0, toS, fName, R.lift, bind_ok, bind_err, bind_bad, eAdd, eSub, eMul, eDiv, eMod, ePow, eNeg, eLt, eLe, eGt, eGe, eEqI, eNeI, eEqS, eEqB, eNeB, eIdxL, eIdxT, eBool, eAbs, Bool.false_eq_true, dList, dTup, if_true, if_false, if_pos, List.map_cons, List.map_nil, List.length_cons, List.length_nil, List.replicate, List.cons_append, List.nil_append, List.getElem?_cons_zero, List.getElem?_cons_succ, List.set_cons_zero, List.set_cons_succ, Nat.reduceAdd, Nat.reduceSub, Nat.reduceLeDiff, Nat.reduceLT, Nat.reduceMul, Int.reduceToNat, Int.reduceEq, Int.reduceAdd, Int.reduceSub, Int.reduceNeg, Bool.not_true, Bool.not_false, decide_true, decide_false, reduceIte, Nat.reduceEqDiff, ite_true, ite_false, ops_ne, tw_6, m1, c1, c2, c2', c3, hz] at e1 e2 ⊢
        simp only [runF, mSeq, seqS, mAsg, mBin, mUn, mVar, mC, mRet, mNext, mIfS, mTest, mTruth, mAnd, mOr, mNot, mAndV, mOrV, mNotV, mCl, mCons, mNil, mCall, mDrop, mDrI, mDrNe, mDrIx, mDrLen, mDrSet, mDrPop, drL, isDr0, toS, fName, R.lift, bind_ok, bind_err, bind_bad, eAdd, eSub, eMul, eDiv, eMod, ePow, eNeg, eLt, eLe, eGt, eGe, eEqI, eNeI, eEqS, eEqB, eNeB, eIdxL, eIdxT, eBool, eAbs, Bool.false_eq_true, dList, dTup, if_true, if_false, if_pos, List.map_cons, List.map_nil, List.length_cons, List.length_nil, List.replicate, List.cons_append, List.nil_append, List.getElem?_cons_zero, List.getElem?_cons_succ, List.set_cons_zero, List.set_cons_succ, Nat.reduceAdd, Nat.reduceSub, Nat.reduceLeDiff, Nat.reduceLT, Nat.reduceMul, Int.reduceToNat, Int.reduceEq, Int.reduceAdd, Int.reduceSub, Int.reduceNeg, Bool.not_true, Bool.not_false, decide_true, decide_false, reduceIte, Nat.reduceEqDiff, ite_true, ite_false, e1, e2, hv, List.find?_cons, List.find?_nil, Sum.inr.injEq, Option.map_some, ops_ne]
      · rw [← e4, if_neg (fun z => hv (e3.mpr z))]
        simp only [m_law_result, mb_law_result, mOwnD, mPutD, mGetD, mPCons, mPNil, keysP, toKey, mergeP, putP, valP, List.foldl_cons, List.foldl_nil, List.any_cons, List.any_nil, List.find?_cons, List.find?_nil, Sum.inr.injEq, Option.map_some, Bool.or_false, Bool.or_true, Bool.true_or, Bool.false_or, dIntC, runF, mSeq, seqS, mAsg, mBin, mUn, mVar, mC, mRet, mNext, mIfS, mTest, mTruth, mAnd, mOr, mNot, mAndV, mOrV, mNotV, mCl, mCons, mNil, mCall, mDrop, mDrI, mDrNe, mDrIx, mDrLen, mDrSet, mDrPop, drL, isDr0, toS, fName, R.lift, bind_ok, bind_err, bind_bad, eAdd, eSub, eMul, eDiv, eMod, ePow, eNeg, eLt, eLe, eGt, eGe, eEqI, eNeI, eEqS, eEqB, eNeB, eIdxL, eIdxT, eBool, eAbs, Bool.false_eq_true, dList, dTup, if_true, if_false, if_pos, List.map_cons, List.map_nil, List.length_cons, List.length_nil, List.replicate, List.cons_append, List.nil_append, List.getElem?_cons_zero, List.getElem?_cons_succ, List.set_cons_zero, List.set_cons_succ, Nat.reduceAdd, Nat.reduceSub, Nat.reduceLeDiff, Nat.reduceLT, Nat.reduceMul, Int.reduceToNat, Int.reduceEq, Int.reduceAdd, Int.reduceSub, Int.reduceNeg, Bool.not_true, Bool.not_false, decide_true, decide_false, reduceIte, Nat.reduceEqDiff, ite_true, ite_false, ops_ne, tw_6, m1, c1, c2, c2', c3, hz] at e1 e2 ⊢
        simp only [runF, mSeq, seqS, mAsg, mBin, mUn, mVar, mC, mRet, mNext, mIfS, mTest, mTruth, mAnd, mOr, mNot, mAndV, mOrV, mNotV, mCl, mCons, mNil, mCall, mDrop, mDrI, mDrNe, mDrIx, mDrLen, mDrSet, mDrPop, drL, isDr0, toS, fName, R.lift, bind_ok, bind_err, bind_bad, eAdd, eSub, eMul, eDiv, eMod, ePow, eNeg, eLt, eLe, eGt, eGe, eEqI, eNeI, eEqS, eEqB, eNeB, eIdxL, eIdxT, eBool, eAbs, Bool.false_eq_true, dList, dTup, if_true, if_false, if_pos, List.map_cons, List.map_nil, List.length_cons, List.length_nil, List.replicate, List.cons_append, List.nil_append, List.getElem?_cons_zero, List.getElem?_cons_succ, List.set_cons_zero, List.set_cons_succ, Nat.reduceAdd, Nat.reduceSub, Nat.reduceLeDiff, Nat.reduceLT, Nat.reduceMul, Int.reduceToNat, Int.reduceEq, Int.reduceAdd, Int.reduceSub, Int.reduceNeg, Bool.not_true, Bool.not_false, decide_true, decide_false, reduceIte, Nat.reduceEqDiff, ite_true, ite_false, e1, e2, hv, List.find?_cons, List.find?_nil, Sum.inr.injEq, Option.map_some, ops_ne]
  · have hz : decide (r = 0) = false := decide_eq_false hr0
    have d1 : CDivG l r := divG hr0 (by omega) (by omega)
    have f := fdiv_b l0 l1 hr0
    have d3 : CMulG r (l.fdiv r) := mulG (by omega) (by omega) (by omega) (by omega)
    refine tri l r (fun c1 c2 c2' c3 => ?_) (fun c1 c2 c2' c3 => ?_) (fun c1 c2 c2' c3 => ?_)
    · rcases hv with hv | hv
      · rw [← e4, if_pos (e3.mp hv)]
        simp only [m_law_result, mb_law_result, mOwnD, mPutD, mGetD, mPCons, mPNil, keysP, toKey, mergeP, putP, valP, List.foldl_cons, List.foldl_nil, List.any_cons, List.any_nil, List.find?_cons, List.find?_nil, Sum.inr.injEq, Option.map_some, Bool.or_false, Bool.or_true, Bool.true_or, Bool.false_or, dIntC, runF, mSeq, seqS, mAsg, mBin, mUn, mVar, mC, mRet, mNext, mIfS, mTest, mTruth, mAnd, mOr, mNot, mAndV, mOrV, mNotV, mCl, mCons, mNil, mCall, mDrop, mDrI, mDrNe, mDrIx, mDrLen, mDrSet, mDrPop, drL, isDr0, toS, fName, R.lift, bind_ok, bind_err, bind_bad, eAdd, eSub, eMul, eDiv, eMod, ePow, eNeg, eLt, eLe, eGt, eGe, eEqI, eNeI, eEqS, eEqB, eNeB, eIdxL, eIdxT, eBool, eAbs, Bool.false_eq_true, dList, dTup, if_true, if_false, if_pos, List.map_cons, List.map_nil, List.length_cons, List.length_nil, List.replicate, List.cons_append, List.nil_append, List.getElem?_cons_zero, List.getElem?_cons_succ, List.set_cons_zero, List.set_cons_succ, Nat.reduceAdd, Nat.reduceSub, Nat.reduceLeDiff, Nat.reduceLT, Nat.reduceMul, Int.reduceToNat, Int.reduceEq, Int.reduceAdd, Int.reduceSub, Int.reduceNeg, Bool.not_true, Bool.not_false, decide_true, decide_false, reduceIte, Nat.reduceEqDiff, ite_true, ite_false, ops_ne, tw_6, m1, c1, c2, c2', c3, hz, d1, d3] at e1 e2 ⊢
        simp only [runF, mSeq, seqS, mAsg, mBin, mUn, mVar, mC, mRet, mNext, mIfS, mTest, mTruth, mAnd, mOr, mNot, mAndV, mOrV, mNotV, mCl, mCons, mNil, mCall, mDrop, mDrI, mDrNe, mDrIx, mDrLen, mDrSet, mDrPop, drL, isDr0, toS, fName, R.lift, bind_ok, bind_err, bind_bad, eAdd, eSub, eMul, eDiv, eMod, ePow, eNeg, eLt, eLe, eGt, eGe, eEqI, eNeI, eEqS, eEqB, eNeB, eIdxL, eIdxT, eBool, eAbs, Bool.false_eq_true, dList, dTup, if_true, if_false, if_pos, List.map_cons, List.map_nil, List.length_cons, List.length_nil, List.replicate, List.cons_append, List.nil_append, List.getElem?_cons_zero, List.getElem?_cons_succ, List.set_cons_zero, List.set_cons_succ, Nat.reduceAdd, Nat.reduceSub, Nat.reduceLeDiff, Nat.reduceLT, Nat.reduceMul, Int.reduceToNat, Int.reduceEq, Int.reduceAdd, Int.reduceSub, Int.reduceNeg, Bool.not_true, Bool.not_false, decide_true, decide_false, reduceIte, Nat.reduceEqDiff, ite_true, ite_false, e1, e2, hv, List.find?_cons, List.find?_nil, Sum.inr.injEq, Option.map_some, ops_ne]
      · rw [← e4, if_neg (fun z => hv (e3.mpr z))]
        simp only [m_law_result, mb_law_result, mOwnD, mPutD, mGetD, mPCons, mPNil, keysP, toKey, mergeP, putP, valP, List.foldl_cons, List.foldl_nil, List.any_cons, List.any_nil, List.find?_cons, List.find?_nil, Sum.inr.injEq, Option.map_some, Bool.or_false, Bool.or_true, Bool.true_or, Bool.false_or, dIntC, runF, mSeq, seqS, mAsg, mBin, mUn, mVar, mC, mRet, mNext, mIfS, mTest, mTruth, mAnd, mOr, mNot, mAndV, mOrV, mNotV, mCl, mCons, mNil, mCall, mDrop, mDrI, mDrNe, mDrIx, mDrLen, mDrSet, mDrPop, drL, isDr0, toS, fName, R.lift, bind_ok, bind_err, bind_bad, eAdd, eSub, eMul, eDiv, eMod, ePow, eNeg, eLt, eLe, eGt, eGe, eEqI, eNeI, eEqS, eEqB, eNeB, eIdxL, eIdxT, eBool, eAbs, Bool.false_eq_true, dList, dTup, if_true, if_false, if_pos, List.map_cons, List.map_nil, List.length_cons, List.length_nil, List.replicate, List.cons_append, List.nil_append, List.getElem?_cons_zero, List.getElem?_cons_succ, List.set_cons_zero, List.set_cons_succ, Nat.reduceAdd, Nat.reduceSub, Nat.reduceLeDiff, Nat.reduceLT, Nat.reduceMul, Int.reduceToNat, Int.reduceEq, Int.reduceAdd, Int.reduceSub, Int.reduceNeg, Bool.not_true, Bool.not_false, decide_true, decide_false, reduceIte, Nat.reduceEqDiff, ite_true, ite_false, ops_ne, tw_6, m1, c1, c2, c2', c3, hz, d1, d3] at e1 e2 ⊢
        simp only [runF, mSeq, seqS, mAsg, mBin, mUn, mVar, mC, mRet, mNext, mIfS, mTest, mTruth, mAnd, mOr, mNot, mAndV, mOrV, mNotV, mCl, mCons, mNil, mCall, mDrop, mDrI, mDrNe, mDrIx, mDrLen, mDrSet, mDrPop, drL, isDr0, toS, fName, R.lift, bind_ok, bind_err, bind_bad, eAdd, eSub, eMul, eDiv, eMod, ePow, eNeg, eLt, eLe, eGt, eGe, eEqI, eNeI, eEqS, eEqB, eNeB, eIdxL, eIdxT, eBool, eAbs, Bool.false_eq_true, dList, dTup, if_true, if_false, if_pos, List.map_cons, List.map_nil, List.length_cons, List.length_nil, List.replicate, List.cons_append, List.nil_append, List.getElem?_cons_zero, List.getElem?_cons_succ, List.set_cons_zero, List.set_cons_succ, Nat.reduceAdd, Nat.reduceSub, Nat.reduceLeDiff, Nat.reduceLT, Nat.reduceMul, Int.reduceToNat, Int.reduceEq, Int.reduceAdd, Int.reduceSub, Int.reduceNeg, Bool.not_true, Bool.not_false, decide_true, decide_false, reduceIte, Nat.reduceEqDiff, ite_true, ite_false, e1, e2, hv, List.find?_cons, List.find?_nil, Sum.inr.injEq, Option.map_some, ops_ne]
    · rcases hv with hv | hv
      · rw [← e4, if_pos (e3.mp hv)]
        simp only [m_law_result, mb_law_result, mOwnD, mPutD, mGetD, mPCons, mPNil, keysP, toKey, mergeP, putP, valP, List.foldl_cons, List.foldl_nil, List.any_cons, List.any_nil, List.find?_cons, List.find?_nil, Sum.inr.injEq, Option.map_some, Bool.or_false, Bool.or_true, Bool.true_or, Bool.false_or, dIntC, runF, mSeq, seqS, mAsg, mBin, mUn, mVar, mC, mRet, mNext, mIfS, mTest, mTruth, mAnd, mOr, mNot, mAndV, mOrV, mNotV, mCl, mCons, mNil, mCall, mDrop, mDrI, mDrNe, mDrIx, mDrLen, mDrSet, mDrPop, drL, isDr0, toS, fName, R.lift, bind_ok, bind_err, bind_bad, eAdd, eSub, eMul, eDiv, eMod, ePow, eNeg, eLt, eLe, eGt, eGe, eEqI, eNeI, eEqS, eEqB, eNeB, eIdxL, eIdxT, eBool, eAbs, Bool.false_eq_true, dList, dTup, if_true, if_false, if_pos, List.map_cons, List.map_nil, List.length_cons, List.length_nil, List.replicate, List.cons_append, List.nil_append, List.getElem?_cons_zero, List.getElem?_cons_succ, List.set_cons_zero, List.set_cons_succ, Nat.reduceAdd, Nat.reduceSub, Nat.reduceLeDiff, Nat.reduceLT, Nat.reduceMul, Int.reduceToNat, Int.reduceEq, Int.reduceAdd, Int.reduceSub, Int.reduceNeg, Bool.not_true, Bool.not_false, decide_true, decide_false, reduceIte, Nat.reduceEqDiff, ite_true, ite_false, ops_ne, tw_6, m1, c1, c2, c2', c3, hz, d1, d3] at e1 e2 ⊢
        simp only [runF, mSeq, seqS, mAsg, mBin, mUn, mVar, mC, mRet, mNext, mIfS, mTest, mTruth, mAnd, mOr, mNot, mAndV, mOrV, mNotV, mCl, mCons, mNil, mCall, mDrop, mDrI, mDrNe, mDrIx, mDrLen, mDrSet, mDrPop, drL, isDr0, toS, fName, R.lift, bind_ok, bind_err, bind_bad, eAdd, eSub, eMul, eDiv, eMod, ePow, eNeg, eLt, eLe, eGt, eGe, eEqI, eNeI, eEqS, eEqB, eNeB, eIdxL, eIdxT, eBool, eAbs, Bool.false_eq_true, dList, dTup, if_true, if_false, if_pos, List.map_cons, List.map_nil, List.length_cons, List.length_nil, List.replicate, List.cons_append, List.nil_append, List.getElem?_cons_zero, List.getElem?_cons_succ, List.set_cons_zero, List.set_cons_succ, Nat.reduceAdd, Nat.reduceSub, Nat.reduceLeDiff, Nat.reduceLT, Nat.reduceMul, Int.reduceToNat, Int.reduceEq, Int.reduceAdd, Int.reduceSub, Int.reduceNeg, Bool.not_true, Bool.not_false, decide_true, decide_false, reduceIte, Nat.reduceEqDiff, ite_true, ite_false, e1, e2, hv, List.find?_cons, List.find?_nil, Sum.inr.injEq, Option.map_some, ops_ne]
      · rw [← e4, if_neg (fun z => hv (e3.mpr z))]
        simp only [m_law_result, mb_law_result, mOwnD, mPutD, mGetD, mPCons, mPNil, keysP, toKey, mergeP, putP, valP, List.foldl_cons, List.foldl_nil, List.any_cons, List.any_nil, List.find?_cons, List.find?_nil, Sum.inr.injEq, Option.map_some, Bool.or_false, Bool.or_true, Bool.true_or, Bool.false_or, dIntC, runF, mSeq, seqS, mAsg, mBin, mUn, mVar, mC, mRet, mNext, mIfS, mTest, mTruth, mAnd, mOr, mNot, mAndV, mOrV, mNotV, mCl, mCons, mNil, mCall, mDrop, mDrI, mDrNe, mDrIx, mDrLen, mDrSet, mDrPop, drL, isDr0, toS, fName, R.lift, bind_ok, bind_err, bind_bad, eAdd, eSub, eMul, eDiv, eMod, ePow, eNeg, eLt, eLe, eGt, eGe, eEqI, eNeI, eEqS, eEqB, eNeB, eIdxL, eIdxT, eBool, eAbs, Bool.false_eq_true, dList, dTup, if_true, if_false, if_pos, List.map_cons, List.map_nil, List.length_cons, List.length_nil, List.replicate, List.cons_append, List.nil_append, List.getElem?_cons_zero, List.getElem?_cons_succ, List.set_cons_zero, List.set_cons_succ, Nat.reduceAdd, Nat.reduceSub, Nat.reduceLeDiff, Nat.reduceLT, Nat.reduceMul, Int.reduceToNat, Int.reduceEq, Int.reduceAdd, Int.reduceSub, Int.reduceNeg, Bool.not_true, Bool.not_false, decide_true, decide_false, reduceIte, Nat.reduceEqDiff, ite_true, ite_false, ops_ne, tw_6, m1, c1, c2, c2', c3, hz, d1, d3] at e1 e2 ⊢
        simp only [runF, mSeq, seqS, mAsg, mBin, mUn, mVar, mC, mRet, mNext, mIfS, mTest, mTruth, mAnd, mOr, mNot, mAndV, mOrV, mNotV, mCl, mCons, mNil, mCall, mDrop, mDrI, mDrNe, mDrIx, mDrLen, mDrSet, mDrPop, drL, isDr0, toS, fName, R.lift, bind_ok, bind_err, bind_bad, eAdd, eSub, eMul, eDiv, eMod, ePow, eNeg, eLt, eLe, eGt, eGe, eEqI, eNeI, eEqS, eEqB, eNeB, eIdxL, eIdxT, eBool, eAbs, Bool.false_eq_true, dList, dTup, if_true, if_false, if_pos, List.map_cons, List.map_nil, List.length_cons, List.length_nil, List.replicate, List.cons_append, List.nil_append, List.getElem?_cons_zero, List.getElem?_cons_succ, List.set_cons_zero, List.set_cons_succ, Nat.reduceAdd, Nat.reduceSub, Nat.reduceLeDiff, Nat.reduceLT, Nat.reduceMul, Int.reduceToNat, Int.reduceEq, Int.reduceAdd, Int.reduceSub, Int.reduceNeg, Bool.not_true, Bool.not_false, decide_true, decide_false, reduceIte, Nat.reduceEqDiff, ite_true, ite_false, e1, e2, hv, List.find?_cons, List.find?_nil, Sum.inr.injEq, Option.map_some, ops_ne]
    · rcases hv with hv | hv
      · rw [← e4, if_pos (e3.mp hv)]
        simp only [m_law_result, mb_law_result, mOwnD, mPutD, mGetD, mPCons, mPNil, keysP, toKey, mergeP, putP, valP, List.foldl_cons, List.foldl_nil, List.any_cons, List.any_nil, List.find?_cons, List.find?_nil, Sum.inr.injEq, Option.map_some, Bool.or_false, Bool.or_true, Bool.true_or, Bool.false_or, dIntC, runF, mSeq, seqS, mAsg, mBin, mUn, mVar, mC, mRet, mNext, mIfS, mTest, mTruth, mAnd, mOr, mNot, mAndV, mOrV, mNotV, mCl, mCons, mNil, mCall, mDrop, mDrI, mDrNe, mDrIx, mDrLen, mDrSet, mDrPop, drL, isDr0, toS, fName, R.lift, bind_ok, bind_err, bind_bad, eAdd, eSub, eMul, eDiv, eMod, ePow, eNeg, eLt, eLe, eGt, eGe, eEqI, eNeI, eEqS, eEqB, eNeB, eIdxL, eIdxT, eBool, eAbs, Bool.false_eq_true, dList, dTup, if_true, if_false, if_pos, List.map_cons, List.map_nil, List.length_cons, List.length_nil, List.replicate, List.cons_append, List.nil_append, List.getElem?_cons_zero, List.getElem?_cons_succ, List.set_cons_zero, List.set_cons_succ, Nat.reduceAdd, Nat.reduceSub, Nat.reduceLeDiff, Nat.reduceLT, Nat.reduceMul, Int.reduceToNat, Int.reduceEq, Int.reduceAdd, Int.reduceSub, Int.reduceNeg, Bool.not_true, Bool.not_false, decide_true, decide_false, reduceIte, Nat.reduceEqDiff, ite_true, ite_false, ops_ne, tw_6, m1, c1, c2, c2', c3, hz, d1, d3] at e1 e2 ⊢
        simp only [runF, mSeq, seqS, mAsg, mBin, mUn, mVar, mC, mRet, mNext, mIfS, mTest, mTruth, mAnd, mOr, mNot, mAndV, mOrV, mNotV, mCl, mCons, mNil, mCall, mDrop, mDrI, mDrNe, mDrIx, mDrLen, mDrSet, mDrPop, drL, isDr0, toS, fName, R.lift, bind_ok, bind_err, bind_bad, eAdd, eSub, eMul, eDiv, eMod, ePow, eNeg, eLt, eLe, eGt, eGe, eEqI, eNeI, eEqS, eEqB, eNeB, eIdxL, eIdxT, eBool, eAbs, Bool.false_eq_true, dList, dTup, if_true, if_false, if_pos, List.map_cons, List.map_nil, List.length_cons, List.length_nil, List.replicate, List.cons_append, List.nil_append, List.getElem?_cons_zero, List.getElem?_cons_succ, List.set_cons_zero, List.set_cons_succ, Nat.reduceAdd, Nat.reduceSub, Nat.reduceLeDiff, Nat.reduceLT, Nat.reduceMul, Int.reduceToNat, Int.reduceEq, Int.reduceAdd, Int.reduceSub, Int.reduceNeg, Bool.not_true, Bool.not_false, decide_true, decide_false, reduceIte, Nat.reduceEqDiff, ite_true, ite_false, e1, e2, hv, List.find?_cons, List.find?_nil, Sum.inr.injEq, Option.map_some, ops_ne]
      · rw [← e4, if_neg (fun z => hv (e3.mpr z))]
        simp only [m_law_result, mb_law_result, mOwnD, mPutD, mGetD, mPCons, mPNil, keysP, toKey, mergeP, putP, valP, List.foldl_cons, List.foldl_nil, List.any_cons, List.any_nil, List.find?_cons, List.find?_nil, Sum.inr.injEq, Option.map_some, Bool.or_false, Bool.or_true, Bool.true_or, Bool.false_or, dIntC, runF, mSeq, seqS, mAsg, mBin, mUn, mVar, mC, mRet, mNext, mIfS, mTest, mTruth, mAnd, mOr, mNot, mAndV, mOrV, mNotV, mCl, mCons, mNil, mCall, mDrop, mDrI, mDrNe, mDrIx, mDrLen, mDrSet, mDrPop, drL, isDr0, toS, fName, R.lift, bind_ok, bind_err, bind_bad, eAdd, eSub, eMul, eDiv, eMod, ePow, eNeg, eLt, eLe, eGt, eGe, eEqI, eNeI, eEqS, eEqB, eNeB, eIdxL, eIdxT, eBool, eAbs, Bool.false_eq_true, dList, dTup, if_true, if_false, if_pos, List.map_cons, List.map_nil, List.length_cons, List.length_nil, List.replicate, List.cons_append, List.nil_append, List.getElem?_cons_zero, List.getElem?_cons_succ, List.set_cons_zero, List.set_cons_succ, Nat.reduceAdd, Nat.reduceSub, Nat.reduceLeDiff, Nat.reduceLT, Nat.reduceMul, Int.reduceToNat, Int.reduceEq, Int.reduceAdd, Int.reduceSub, Int.reduceNeg, Bool.not_true, Bool.not_false, decide_true, decide_false, reduceIte, Nat.reduceEqDiff, ite_true, ite_false, ops_ne, tw_6, m1, c1, c2, c2', c3, hz, d1, d3] at e1 e2 ⊢
        simp only [runF, mSeq, seqS, mAsg, mBin, mUn, mVar, mC, mRet, mNext, mIfS, mTest, mTruth, mAnd, mOr, mNot, mAndV, mOrV, mNotV, mCl, mCons, mNil, mCall, mDrop, mDrI, mDrNe, mDrIx, mDrLen, mDrSet, mDrPop, drL, isDr0, toS, fName, R.lift, bind_ok, bind_err, bind_bad, eAdd, eSub, eMul, eDiv, eMod, ePow, eNeg, eLt, eLe, eGt, eGe, eEqI, eNeI, eEqS, eEqB, eNeB, eIdxL, eIdxT, eBool, eAbs, Bool.false_eq_true, dList, dTup, if_true, if_false, if_pos, List.map_cons, List.map_nil, List.length_cons, List.length_nil, List.replicate, List.cons_append, List.nil_append, List.getElem?_cons_zero, List.getElem?_cons_succ, List.set_cons_zero, List.set_cons_succ, Nat.reduceAdd, Nat.reduceSub, Nat.reduceLeDiff, Nat.reduceLT, Nat.reduceMul, Int.reduceToNat, Int.reduceEq, Int.reduceAdd, Int.reduceSub, Int.reduceNeg, Bool.not_true, Bool.not_false, decide_true, decide_false, reduceIte, Nat.reduceEqDiff, ite_true, ite_false, e1, e2, hv, List.find?_cons, List.find?_nil, Sum.inr.injEq, Option.map_some, ops_ne]
theorem in_7 : dNotIn (.str "less") k_OPERATORS = some (.bl false) := rfl
theorem tw_7 : dIn (.str "less") (.tup [.str "//", .str "mod"]) = some (.bl false) := rfl
theorem ro_7 (A : Ad) {l r : Int} {s : Dr} (l0 : -(10 ^ 61) < l) (l1 : l < 10 ^ 61) (r0 : -(10 ^ 61) < r) (r1 : r < 10 ^ 61) : m_result_of A [.str "less", .int l, .int r] s = .ok (.int (if decide (l < r) = true then (1 : Int) else 0)) s := by
  have m1 : CMulG l r := mulG (by omega) (by omega) (by omega) (by omega)
  simp only [m_result_of, mb_result_of, runF, mSeq, seqS, mAsg, mBin, mUn, mVar, mC, mRet, mNext, mIfS, mTest, mTruth, mAnd, mOr, mNot, mAndV, mOrV, mNotV, mCl, mCons, mNil, mCall, mDrop, mDrI, mDrNe, mDrIx, mDrLen, mDrSet, mDrPop, drL, isDr0, toS, fName, R.lift, bind_ok, bind_err, bind_bad, eAdd, eSub, eMul, eDiv, eMod, ePow, eNeg, eLt, eLe, eGt, eGe, eEqI, eNeI, eEqS, eEqB, eNeB, eIdxL, eIdxT, eBool, eAbs, Bool.false_eq_true, dList, dTup, if_true, if_false, if_pos, List.map_cons, List.map_nil, List.length_cons, List.length_nil, List.replicate, List.cons_append, List.nil_append, List.getElem?_cons_zero, List.getElem?_cons_succ, List.set_cons_zero, List.set_cons_succ, Nat.reduceAdd, Nat.reduceSub, Nat.reduceLeDiff, Nat.reduceLT, Nat.reduceMul, Int.reduceToNat, Int.reduceEq, Int.reduceAdd, Int.reduceSub, Int.reduceNeg, Bool.not_true, Bool.not_false, decide_true, decide_false, reduceIte, Nat.reduceEqDiff, ite_true, ite_false, ops_ne, dMin2, dMax2, dI2, dIntC, m1]
theorem lr_7 (A : Ad) {l r : Int} {s : Dr} (l0 : -(10 ^ 61) < l) (l1 : l < 10 ^ 61) (r0 : -(10 ^ 61) < r) (r1 : r < 10 ^ 61) (v0 : -(10 ^ 150) < (if decide (l < r) = true then (1 : Int) else 0)) (v1 : (if decide (l < r) = true then (1 : Int) else 0) < 10 ^ 150) : m_law_result A [.str "less", .int l, .int r] s = .ok (dv (if decide (l < r) = true then (1 : Int) else 0)) s := by
  have m1 : CMulG l r := mulG (by omega) (by omega) (by omega) (by omega)
  obtain ⟨a0, a1⟩ := av_b v0 v1
  obtain ⟨L, e1, e2, e3⟩ := lenStr a0 a1
  unfold av at e1 e2
  have e4 : (if 10 ^ 60 ≤ av (if decide (l < r) = true then (1 : Int) else 0) then D.str "overflow" else D.int (if decide (l < r) = true then (1 : Int) else 0)) = dv (if decide (l < r) = true then (1 : Int) else 0) := rfl
  have hv : 60 < L ∨ ¬ 60 < L := Decidable.em _
  by_cases hr0 : r = 0
  · have hz : decide (r = 0) = true := decide_eq_true hr0
    refine tri l r (fun c1 c2 c2' c3 => ?_) (fun c1 c2 c2' c3 => ?_) (fun c1 c2 c2' c3 => ?_)
    · rcases hv with hv | hv
      · rw [← e4, if_pos (e3.mp hv)]
        simp only [m_law_result, mb_law_result, mOwnD, mPutD, mGetD, mPCons, mPNil, keysP, toKey, mergeP, putP, valP, List.foldl_cons, List.foldl_nil, List.any_cons, List.any_nil, List.find?_cons, List.find?_nil, Sum.inr.injEq, Option.map_some, Bool.or_false, Bool.or_true, Bool.true_or, Bool.false_or, dIntC, runF, mSeq, seqS, mAsg, mBin, mUn, mVar, mC, mRet, mNext, mIfS, mTest, mTruth, mAnd, mOr, mNot, mAndV, mOrV, mNotV, mCl, mCons, mNil, mCall, mDrop, mDrI, mDrNe, mDrIx, mDrLen, mDrSet, mDrPop, drL, isDr0, toS, fName, R.lift, bind_ok, bind_err, bind_bad, eAdd, eSub, eMul, eDiv, eMod, ePow, eNeg, eLt, eLe, eGt, eGe, eEqI, eNeI, eEqS, eEqB, eNeB, eIdxL, eIdxT, eBool, eAbs, Bool.false_eq_true, dList, dTup, if_true, if_false, if_pos, List.map_cons, List.map_nil, List.length_cons, List.length_nil, List.replicate, List.cons_append, List.nil_append, List.getElem?_cons_zero, List.getElem?_cons_succ, List.set_cons_zero, List.set_cons_succ, Nat.reduceAdd, Nat.reduceSub, Nat.reduceLeDiff, Nat.reduceLT, Nat.reduceMul, Int.reduceToNat, Int.reduceEq, Int.reduceAdd, Int.reduceSub, Int.reduceNeg, Bool.not_true, Bool.not_false, decide_true, decide_false, reduceIte, Nat.reduceEqDiff, ite_true, ite_false, ops_ne, tw_7, m1, c1, c2, c2', c3, hz] at e1 e2 ⊢
        simp only [runF, mSeq, seqS, mAsg, mBin, mUn, mVar, mC, mRet, mNext, mIfS, mTest, mTruth, mAnd, mOr, mNot, mAndV, mOrV, mNotV, mCl, mCons, mNil, mCall, mDrop, mDrI, mDrNe, mDrIx, mDrLen, mDrSet, mDrPop, drL, isDr0, toS, fName, R.lift, bind_ok, bind_err, bind_bad, eAdd, eSub, eMul, eDiv, eMod, ePow, eNeg, eLt, eLe, eGt, eGe, eEqI, eNeI, eEqS, eEqB, eNeB, eIdxL, eIdxT, eBool, eAbs, Bool.false_eq_true, dList, dTup, if_true, if_false, if_pos, List.map_cons, List.map_nil, List.length_cons, List.length_nil, List.replicate, List.cons_append, List.nil_append, List.getElem?_cons_zero, List.getElem?_cons_succ, List.set_cons_zero, List.set_cons_succ, Nat.reduceAdd, Nat.reduceSub, Nat.reduceLeDiff, Nat.reduceLT, Nat.reduceMul, Int.reduceToNat, Int.reduceEq, Int.reduceAdd, Int.reduceSub, Int.reduceNeg, Bool.not_true, Bool.not_false, decide_true, decide_false, reduceIte, Nat.reduceEqDiff, ite_true, ite_false, e1, e2, hv, List.find?_cons, List.find?_nil, Sum.inr.injEq, Option.map_some, ops_ne]
      · rw [← e4, if_neg (fun z => hv (e3.mpr z))]
        simp only [m_law_result, mb_law_result, mOwnD, mPutD, mGetD, mPCons, mPNil, keysP, toKey, mergeP, putP, valP, List.foldl_cons, List.foldl_nil, List.any_cons, List.any_nil, List.find?_cons, List.find?_nil, Sum.inr.injEq, Option.map_some, Bool.or_false, Bool.or_true, Bool.true_or, Bool.false_or, dIntC, runF, mSeq, seqS, mAsg, mBin, mUn, mVar, mC, mRet, mNext, mIfS, mTest, mTruth, mAnd, mOr, mNot, mAndV, mOrV, mNotV, mCl, mCons, mNil, mCall, mDrop, mDrI, mDrNe, mDrIx, mDrLen, mDrSet, mDrPop, drL, isDr0, toS, fName, R.lift, bind_ok, bind_err, bind_bad, eAdd, eSub, eMul, eDiv, eMod, ePow, eNeg, eLt, eLe, eGt, eGe, eEqI, eNeI, eEqS, eEqB, eNeB, eIdxL, eIdxT, eBool, eAbs, Bool.false_eq_true, dList, dTup, if_true, if_false, if_pos, List.map_cons, List.map_nil, List.length_cons, List.length_nil, List.replicate, List.cons_append, List.nil_append, List.getElem?_cons_zero, List.getElem?_cons_succ, List.set_cons_zero, List.set_cons_succ, Nat.reduceAdd, Nat.reduceSub, Nat.reduceLeDiff, Nat.reduceLT, Nat.reduceMul, Int.reduceToNat, Int.reduceEq, Int.reduceAdd, Int.reduceSub, Int.reduceNeg, Bool.not_true, Bool.not_false, decide_true, decide_false, reduceIte, Nat.reduceEqDiff, ite_true, ite_false, ops_ne, tw_7, m1, c1, c2, c2', c3, hz] at e1 e2 ⊢
        simp only [runF, mSeq, seqS, mAsg, mBin, mUn, mVar, mC, mRet, mNext, mIfS, mTest, mTruth, mAnd, mOr, mNot, mAndV, mOrV, mNotV, mCl, mCons, mNil, mCall, mDrop, mDrI, mDrNe, mDrIx, mDrLen, mDrSet, mDrPop, drL, isDr0, toS, fName, R.lift, bind_ok, bind_err, bind_bad, eAdd, eSub, eMul, eDiv, eMod, ePow, eNeg, eLt, eLe, eGt, eGe, eEqI, eNeI, eEqS, eEqB, eNeB, eIdxL, eIdxT, eBool, eAbs, Bool.false_eq_true, dList, dTup, if_true, if_false, if_pos, List.map_cons, List.map_nil, List.length_cons, List.length_nil, List.replicate, List.cons_append, List.nil_append, List.getElem?_cons_zero, List.getElem?_cons_succ, List.set_cons_zero, List.set_cons_succ, Nat.reduceAdd, Nat.reduceSub, Nat.reduceLeDiff, Nat.reduceLT, Nat.reduceMul, Int.reduceToNat, Int.reduceEq, Int.reduceAdd, Int.reduceSub, Int.reduceNeg, Bool.not_true, Bool.not_false, decide_true, decide_false, reduceIte, Nat.reduceEqDiff, ite_true, ite_false, e1, e2, hv, List.find?_cons, List.find?_nil, Sum.inr.injEq, Option.map_some, ops_ne]
    · rcases hv with hv | hv
      · rw [← e4, if_pos (e3.mp hv)]
        simp only [m_law_result, mb_law_result, mOwnD, mPutD, mGetD, mPCons, mPNil, keysP, toKey, mergeP, putP, valP, List.foldl_cons, List.foldl_nil, List.any_cons, List.any_nil, List.find?_cons, List.find?_nil, Sum.inr.injEq, Option.map_some, Bool.or_false, Bool.or_true, Bool.true_or, Bool.false_or, dIntC, runF, mSeq, seqS, mAsg, mBin, mUn, mVar, mC, mRet, mNext, mIfS, mTest, mTruth, mAnd, mOr, mNot, mAndV, mOrV, mNotV, mCl, mCons, mNil, mCall, mDrop, mDrI, mDrNe, mDrIx, mDrLen, mDrSet, mDrPop, drL, isDr0, toS, fName, R.lift, bind_ok, bind_err, bind_bad, eAdd, eSub, eMul, eDiv, eMod, ePow, eNeg, eLt, eLe, eGt, eGe, eEqI, eNeI, eEqS, eEqB, eNeB, eIdxL, eIdxT, eBool, eAbs, Bool.false_eq_true, dList, dTup, if_true, if_false, if_pos, List.map_cons, List.map_nil, List.length_cons, List.length_nil, List.replicate, List.cons_append, List.nil_append, List.getElem?_cons_zero, List.getElem?_cons_succ, List.set_cons_zero, List.set_cons_succ, Nat.reduceAdd, Nat.reduceSub, Nat.reduceLeDiff, Nat.reduceLT, Nat.reduceMul, Int.reduceToNat, Int.reduceEq, Int.reduceAdd, Int.reduceSub, Int.reduceNeg, Bool.not_true, Bool.not_false, decide_true, decide_false, reduceIte, Nat.reduceEqDiff, ite_true, ite_false, ops_ne, tw_7, m1, c1, c2, c2', c3, hz] at e1 e2 ⊢
        simp only [runF, mSeq, seqS, mAsg, mBin, mUn, mVar, mC, mRet, mNext, mIfS, mTest, mTruth, mAnd, mOr, mNot, mAndV, mOrV, mNotV, mCl, mCons, mNil, mCall, mDrop, mDrI, mDrNe, mDrIx, mDrLen, mDrSet, mDrPop, drL, isDr0, toS, fName, R.lift, bind_ok, bind_err, bind_bad, eAdd, eSub, eMul, eDiv, eMod, ePow, eNeg, eLt, eLe, eGt, eGe, eEqI, eNeI, eEqS, eEqB, eNeB, eIdxL, eIdxT, eBool, eAbs, Bool.false_eq_true, dList, dTup, if_true, if_false, if_pos, List.map_cons, List.map_nil, List.length_cons, List.length_nil, List.replicate, List.cons_append, List.nil_append, List.getElem?_cons_zero, List.getElem?_cons_succ, List.set_cons_zero, List.set_cons_succ, Nat.reduceAdd, Nat.reduceSub, Nat.reduceLeDiff, Nat.reduceLT, Nat.reduceMul, Int.reduceToNat, Int.reduceEq, Int.reduceAdd, Int.reduceSub, Int.reduceNeg, Bool.not_true, Bool.not_false, decide_true, decide_false, reduceIte, Nat.reduceEqDiff, ite_true, ite_false, e1, e2, hv, List.find?_cons, List.find?_nil, Sum.inr.injEq, Option.map_some, ops_ne]
      · rw [← e4, if_neg (fun z => hv (e3.mpr z))]
        simp only [m_law_result, mb_law_result, mOwnD, mPutD, mGetD, mPCons, mPNil, keysP, toKey, mergeP, putP, valP, List.foldl_cons, List.foldl_nil, List.any_cons, List.any_nil, List.find?_cons, List.find?_nil, Sum.inr.injEq, Option.map_some, Bool.or_false, Bool.or_true, Bool.true_or, Bool.false_or, dIntC, runF, mSeq, seqS, mAsg, mBin, mUn, mVar, mC, mRet, mNext, mIfS, mTest, mTruth, mAnd, mOr, mNot, mAndV, mOrV, mNotV, mCl, mCons, mNil, mCall, mDrop, mDrI, mDrNe, mDrIx, mDrLen, mDrSet, mDrPop, drL, isDr0, toS, fName, R.lift, bind_ok, bind_err, bind_bad, eAdd, eSub, eMul, eDiv, eMod, ePow, eNeg, eLt, eLe, eGt, eGe, eEqI, eNeI, eEqS, eEqB, eNeB, eIdxL, eIdxT, eBool, eAbs, Bool.false_eq_true, dList, dTup, if_true, if_false, if_pos, List.map_cons, List.map_nil, List.length_cons, List.length_nil, List.replicate, List.cons_append, List.nil_append, List.getElem?_cons_zero, List.getElem?_cons_succ, List.set_cons_zero, List.set_cons_succ, Nat.reduceAdd, Nat.reduceSub, Nat.reduceLeDiff, Nat.reduceLT, Nat.reduceMul, Int.reduceToNat, Int.reduceEq, Int.reduceAdd, Int.reduceSub, Int.reduceNeg, Bool.not_true, Bool.not_false, decide_true, decide_false, reduceIte, Nat.reduceEqDiff, ite_true, ite_false, ops_ne, tw_7, m1, c1, c2, c2', c3, hz] at e1 e2 ⊢
        simp only [runF, mSeq, seqS, mAsg, mBin, mUn, mVar, mC, mRet, mNext, mIfS, mTest, mTruth, mAnd, mOr, mNot, mAndV, mOrV, mNotV, mCl, mCons, mNil, mCall, mDrop, mDrI, mDrNe, mDrIx, mDrLen, mDrSet, mDrPop, drL, isDr0, toS, fName, R.lift, bind_ok, bind_err, bind_bad, eAdd, eSub, eMul, eDiv, eMod, ePow, eNeg, eLt, eLe, eGt, eGe, eEqI, eNeI, eEqS, eEqB, eNeB, eIdxL, eIdxT, eBool, eAbs, Bool.false_eq_true, dList, dTup, if_true, if_false, if_pos, List.map_cons, List.map_nil, List.length_cons, List.length_nil, List.replicate, List.cons_append, List.nil_append, List.getElem?_cons_zero, List.getElem?_cons_succ, List.set_cons_zero, List.set_cons_succ, Nat.reduceAdd, Nat.reduceSub, Nat.reduceLeDiff, Nat.reduceLT, Nat.reduceMul, Int.reduceToNat, Int.reduceEq, Int.reduceAdd, Int.reduceSub, Int.reduceNeg, Bool.not_true, Bool.not_false, decide_true, decide_false, reduceIte, Nat.reduceEqDiff, ite_true, ite_false, e1, e2, hv, List.find?_cons, List.find?_nil, Sum.inr.injEq, Option.map_some, ops_ne]
    · rcases hv with hv | hv
      · rw [← e4, if_pos (e3.mp hv)]
        simp only [m_law_result, mb_law_result, mOwnD, mPutD, mGetD, mPCons, mPNil, keysP, toKey, mergeP, putP, valP, List.foldl_cons, List.foldl_nil, List.any_cons, List.any_nil, List.find?_cons, List.find?_nil, Sum.inr.injEq, Option.map_some, Bool.or_false, Bool.or_true, Bool.true_or, Bool.false_or, dIntC, runF, mSeq, seqS, mAsg, mBin, mUn, mVar, mC, mRet, mNext, mIfS, mTest, mTruth, mAnd, mOr, mNot, mAndV, mOrV, mNotV, mCl, mCons, mNil, mCall, mDrop, mDrI, mDrNe, mDrIx, mDrLen, mDrSet, mDrPop, drL, isDr0, toS, fName, R.lift, bind_ok, bind_err, bind_bad, eAdd, eSub, eMul, eDiv, eMod, ePow, eNeg, eLt, eLe, eGt, eGe, eEqI, eNeI, eEqS, eEqB, eNeB, eIdxL, eIdxT, eBool, eAbs, Bool.false_eq_true, dList, dTup, if_true, if_false, if_pos, List.map_cons, List.map_nil, List.length_cons, List.length_nil, List.replicate, List.cons_append, List.nil_append, List.getElem?_cons_zero, List.getElem?_cons_succ, List.set_cons_zero, List.set_cons_succ, Nat.reduceAdd, Nat.reduceSub, Nat.reduceLeDiff, Nat.reduceLT, Nat.reduceMul, Int.reduceToNat, Int.reduceEq, Int.reduceAdd, Int.reduceSub, Int.reduceNeg, Bool.not_true, Bool.not_false, decide_true, decide_false, reduceIte, Nat.reduceEqDiff, ite_true, ite_false, ops_ne, tw_7, m1, c1, c2, c2', c3, hz] at e1 e2 ⊢
        simp only [runF, mSeq, seqS, mAsg, mBin, mUn, mVar, mC, mRet, mNext, mIfS, mTest, mTruth, mAnd, mOr, mNot, mAndV, mOrV, mNotV, mCl, mCons, mNil, mCall, mDrop, mDrI, mDrNe, mDrIx, mDrLen, mDrSet, mDrPop, drL, isDr0, toS, fName, R.lift, bind_ok, bind_err, bind_bad, eAdd, eSub, eMul, eDiv, eMod, ePow, eNeg, eLt, eLe, eGt, eGe, eEqI, eNeI, eEqS, eEqB, eNeB, eIdxL, eIdxT, eBool, eAbs, Bool.false_eq_true, dList, dTup, if_true, if_false, if_pos, List.map_cons, List.map_nil, List.length_cons, List.length_nil, List.replicate, List.cons_append, List.nil_append, List.getElem?_cons_zero, List.getElem?_cons_succ, List.set_cons_zero, List.set_cons_succ, Nat.reduceAdd, Nat.reduceSub, Nat.reduceLeDiff, Nat.reduceLT, Nat.reduceMul, Int.reduceToNat, Int.reduceEq, Int.reduceAdd, Int.reduceSub, Int.reduceNeg, Bool.not_true, Bool.not_false, decide_true, decide_false, reduceIte, Nat.reduceEqDiff, ite_true, ite_false, e1, e2, hv, List.find?_cons, List.find?_nil, Sum.inr.injEq, Option.map_some, ops_ne]
      · rw [← e4, if_neg (fun z => hv (e3.mpr z))]
        simp only [m_law_result, mb_law_result, mOwnD, mPutD, mGetD, mPCons, mPNil, keysP, toKey, mergeP, putP, valP, List.foldl_cons, List.foldl_nil, List.any_cons, List.any_nil, List.find?_cons, List.find?_nil, Sum.inr.injEq, Option.map_some, Bool.or_false, Bool.or_true, Bool.true_or, Bool.false_or, dIntC, runF, mSeq, seqS, mAsg, mBin, mUn, mVar, mC, mRet, mNext, mIfS, mTest, mTruth, mAnd, mOr, mNot, mAndV, mOrV, mNotV, mCl, mCons, mNil, mCall, mDrop, mDrI, mDrNe, mDrIx, mDrLen, mDrSet, mDrPop, drL, isDr0, toS, fName, R.lift, bind_ok, bind_err, bind_bad, eAdd, eSub, eMul, eDiv, eMod, ePow, eNeg, eLt, eLe, eGt, eGe, eEqI, eNeI, eEqS, eEqB, eNeB, eIdxL, eIdxT, eBool, eAbs, Bool.false_eq_true, dList, dTup, if_true, if_false, if_pos, List.map_cons, List.map_nil, List.length_cons, List.length_nil, List.replicate, List.cons_append, List.nil_append, List.getElem?_cons_zero, List.getElem?_cons_succ, List.set_cons_zero, List.set_cons_succ, Nat.reduceAdd, Nat.reduceSub, Nat.reduceLeDiff, Nat.reduceLT, Nat.reduceMul, Int.reduceToNat, Int.reduceEq, Int.reduceAdd, Int.reduceSub, Int.reduceNeg, Bool.not_true, Bool.not_false, decide_true, decide_false, reduceIte, Nat.reduceEqDiff, ite_true, ite_false, ops_ne, tw_7, m1, c1, c2, c2', c3, hz] at e1 e2 ⊢
        simp only [runF, mSeq, seqS, mAsg, mBin, mUn, mVar, mC, mRet, mNext, mIfS, mTest, mTruth, mAnd, mOr, mNot, mAndV, mOrV, mNotV, mCl, mCons, mNil, mCall, mDrop, mDrI, mDrNe, mDrIx, mDrLen, mDrSet, mDrPop, drL, isDr0, toS, fName, R.lift, bind_ok, bind_err, bind_bad, eAdd, eSub, eMul, eDiv, eMod, ePow, eNeg, eLt, eLe, eGt, eGe, eEqI, eNeI, eEqS, eEqB, eNeB, eIdxL, eIdxT, eBool, eAbs, Bool.false_eq_true, dList, dTup, if_true, if_false, if_pos, List.map_cons, List.map_nil, List.length_cons, List.length_nil, List.replicate, List.cons_append, List.nil_append, List.getElem?_cons_zero, List.getElem?_cons_succ, List.set_cons_zero, List.set_cons_succ, Nat.reduceAdd, Nat.reduceSub, Nat.reduceLeDiff, Nat.reduceLT, Nat.reduceMul, Int.reduceToNat, Int.reduceEq, Int.reduceAdd, Int.reduceSub, Int.reduceNeg, Bool.not_true, Bool.not_false, decide_true, decide_false, reduceIte, Nat.reduceEqDiff, ite_true, ite_false, e1, e2, hv, List.find?_cons, List.find?_nil, Sum.inr.injEq, Option.map_some, ops_ne]
  · have hz : decide (r = 0) = false := decide_eq_false hr0
    have d1 : CDivG l r := divG hr0 (by omega) (by omega)
    have f := fdiv_b l0 l1 hr0
    have d3 : CMulG r (l.fdiv r) := mulG (by omega) (by omega) (by omega) (by omega)
    refine tri l r (fun c1 c2 c2' c3 => ?_) (fun c1 c2 c2' c3 => ?_) (fun c1 c2 c2' c3 => ?_)
    · rcases hv with hv | hv
      · rw [← e4, if_pos (e3.mp hv)]
        simp only [m_law_result, mb_law_result, mOwnD, mPutD, mGetD, mPCons, mPNil, keysP, toKey, mergeP, putP, valP, List.foldl_cons, List.foldl_nil, List.any_cons, List.any_nil, List.find?_cons, List.find?_nil, Sum.inr.injEq, Option.map_some, Bool.or_false, Bool.or_true, Bool.true_or, Bool.false_or, dIntC, runF, mSeq, seqS, mAsg, mBin, mUn, mVar, mC, mRet, mNext, mIfS, mTest, mTruth, mAnd, mOr, mNot, mAndV, mOrV, mNotV, mCl, mCons, mNil, mCall, mDrop, mDrI, mDrNe, mDrIx, mDrLen, mDrSet, mDrPop, drL, isDr0, toS, fName, R.lift, bind_ok, bind_err, bind_bad, eAdd, eSub, eMul, eDiv, eMod, ePow, eNeg, eLt, eLe, eGt, eGe, eEqI, eNeI, eEqS, eEqB, eNeB, eIdxL, eIdxT, eBool, eAbs, Bool.false_eq_true, dList, dTup, if_true, if_false, if_pos, List.map_cons, List.map_nil, List.length_cons, List.length_nil, List.replicate, List.cons_append, List.nil_append, List.getElem?_cons_zero, List.getElem?_cons_succ, List.set_cons_zero, List.set_cons_succ, Nat.reduceAdd, Nat.reduceSub, Nat.reduceLeDiff, Nat.reduceLT, Nat.reduceMul, Int.reduceToNat, Int.reduceEq, Int.reduceAdd, Int.reduceSub, Int.reduceNeg, Bool.not_true, Bool.not_false, decide_true, decide_false, reduceIte, Nat.reduceEqDiff, ite_true, ite_false, ops_ne, tw_7, m1, c1, c2, c2', c3, hz, d1, d3] at e1 e2 ⊢
        simp only [runF, mSeq, seqS, mAsg, mBin, mUn, mVar, mC, mRet, mNext, mIfS, mTest, mTruth, mAnd, mOr, mNot, mAndV, mOrV, mNotV, mCl, mCons, mNil, mCall, mDrop, mDrI, mDrNe, mDrIx, mDrLen, mDrSet, mDrPop, drL, isDr0, toS, fName, R.lift, bind_ok, bind_err, bind_bad, eAdd, eSub, eMul, eDiv, eMod, ePow, eNeg, eLt, eLe, eGt, eGe, eEqI, eNeI, eEqS, eEqB, eNeB, eIdxL, eIdxT, eBool, eAbs, Bool.false_eq_true, dList, dTup, if_true, if_false, if_pos, List.map_cons, List.map_nil, List.length_cons, List.length_nil, List.replicate, List.cons_append, List.nil_append, List.getElem?_cons_zero, List.getElem?_cons_succ, List.set_cons_zero, List.set_cons_succ, Nat.reduceAdd, Nat.reduceSub, Nat.reduceLeDiff, Nat.reduceLT, Nat.reduceMul, Int.reduceToNat, Int.reduceEq, Int.reduceAdd, Int.reduceSub, Int.reduceNeg, Bool.not_true, Bool.not_false, decide_true, decide_false, reduceIte, Nat.reduceEqDiff, ite_true, ite_false, e1, e2, hv, List.find?_cons, List.find?_nil, Sum.inr.injEq, Option.map_some, ops_ne]
      · rw [← e4, if_neg (fun z => hv (e3.mpr z))]
        simp only [m_law_result, mb_law_result, mOwnD, mPutD, mGetD, mPCons, mPNil, keysP, toKey, mergeP, putP, valP, List.foldl_cons, List.foldl_nil, List.any_cons, List.any_nil, List.find?_cons, List.find?_nil, Sum.inr.injEq, Option.map_some, Bool.or_false, Bool.or_true, Bool.true_or, Bool.false_or, dIntC, runF, mSeq, seqS, mAsg, mBin, mUn, mVar, mC, mRet, mNext, mIfS, mTest, mTruth, mAnd, mOr, mNot, mAndV, mOrV, mNotV, mCl, mCons, mNil, mCall, mDrop, mDrI, mDrNe, mDrIx, mDrLen, mDrSet, mDrPop, drL, isDr0, toS, fName, R.lift, bind_ok, bind_err, bind_bad, eAdd, eSub, eMul, eDiv, eMod, ePow, eNeg, eLt, eLe, eGt, eGe, eEqI, eNeI, eEqS, eEqB, eNeB, eIdxL, eIdxT, eBool, eAbs, Bool.false_eq_true, dList, dTup, if_true, if_false, if_pos, List.map_cons, List.map_nil, List.length_cons, List.length_nil, List.replicate, List.cons_append, List.nil_append, List.getElem?_cons_zero, List.getElem?_cons_succ, List.set_cons_zero, List.set_cons_succ, Nat.reduceAdd, Nat.reduceSub, Nat.reduceLeDiff, Nat.reduceLT, Nat.reduceMul, Int.reduceToNat, Int.reduceEq, Int.reduceAdd, Int.reduceSub, Int.reduceNeg, Bool.not_true, Bool.not_false, decide_true, decide_false, reduceIte, Nat.reduceEqDiff, ite_true, ite_false, ops_ne, tw_7, m1, c1, c2, c2', c3, hz, d1, d3] at e1 e2 ⊢
        simp only [runF, mSeq, seqS, mAsg, mBin, mUn, mVar, mC, mRet, mNext, mIfS, mTest, mTruth, mAnd, mOr, mNot, mAndV, mOrV, mNotV, mCl, mCons, mNil, mCall, mDrop, mDrI, mDrNe, mDrIx, mDrLen, mDrSet, mDrPop, drL, isDr0, toS, fName, R.lift, bind_ok, bind_err, bind_bad, eAdd, eSub, eMul, eDiv, eMod, ePow, eNeg, eLt, eLe, eGt, eGe, eEqI, eNeI, eEqS, eEqB, eNeB, eIdxL, eIdxT, eBool, eAbs, Bool.false_eq_true, dList, dTup, if_true, if_false, if_pos, List.map_cons, List.map_nil, List.length_cons, List.length_nil, List.replicate, List.cons_append, List.nil_append, List.getElem?_cons_zero, List.getElem?_cons_succ, List.set_cons_zero, List.set_cons_succ, Nat.reduceAdd, Nat.reduceSub, Nat.reduceLeDiff, Nat.reduceLT, Nat.reduceMul, Int.reduceToNat, Int.reduceEq, Int.reduceAdd, Int.reduceSub, Int.reduceNeg, Bool.not_true, Bool.not_false, decide_true, decide_false, reduceIte, Nat.reduceEqDiff, ite_true, ite_false, e1, e2, hv, List.find?_cons, List.find?_nil, Sum.inr.injEq, Option.map_some, ops_ne]
    · rcases hv with hv | hv
      · rw [← e4, if_pos (e3.mp hv)]
        simp only [m_law_result, mb_law_result, mOwnD, mPutD, mGetD, mPCons, mPNil, keysP, toKey, mergeP, putP, valP, List.foldl_cons, List.foldl_nil, List.any_cons, List.any_nil, List.find?_cons, List.find?_nil, Sum.inr.injEq, Option.map_some, Bool.or_false, Bool.or_true, Bool.true_or, Bool.false_or, dIntC, runF, mSeq, seqS, mAsg, mBin, mUn, mVar, mC, mRet, mNext, mIfS, mTest, mTruth, mAnd, mOr, mNot, mAndV, mOrV, mNotV, mCl, mCons, mNil, mCall, mDrop, mDrI, mDrNe, mDrIx, mDrLen, mDrSet, mDrPop, drL, isDr0, toS, fName, R.lift, bind_ok, bind_err, bind_bad, eAdd, eSub, eMul, eDiv, eMod, ePow, eNeg, eLt, eLe, eGt, eGe, eEqI, eNeI, eEqS, eEqB, eNeB, eIdxL, eIdxT, eBool, eAbs, Bool.false_eq_true, dList, dTup, if_true, if_false, if_pos, List.map_cons, List.map_nil, List.length_cons, List.length_nil, List.replicate, List.cons_append, List.nil_append, List.getElem?_cons_zero, List.getElem?_cons_succ, List.set_cons_zero, List.set_cons_succ, Nat.reduceAdd, Nat.reduceSub, Nat.reduceLeDiff, Nat.reduceLT, Nat.reduceMul, Int.reduceToNat, Int.reduceEq, Int.reduceAdd, Int.reduceSub, Int.reduceNeg, Bool.not_true, Bool.not_false, decide_true, decide_false, reduceIte, Nat.reduceEqDiff, ite_true, ite_false, ops_ne, tw_7, m1, c1, c2, c2', c3, hz, d1, d3] at e1 e2 ⊢
        simp only [runF, mSeq, seqS, mAsg, mBin, mUn, mVar, mC, mRet, mNext, mIfS, mTest, mTruth, mAnd, mOr, mNot, mAndV, mOrV, mNotV, mCl, mCons, mNil, mCall, mDrop, mDrI, mDrNe, mDrIx, mDrLen, mDrSet, mDrPop, drL, isDr0, toS, fName, R.lift, bind_ok, bind_err, bind_bad, eAdd, eSub, eMul, eDiv, eMod, ePow, eNeg, eLt, eLe, eGt, eGe, eEqI, eNeI, eEqS, eEqB, eNeB, eIdxL, eIdxT, eBool, eAbs, Bool.false_eq_true, dList, dTup, if_true, if_false, if_pos, List.map_cons, List.map_nil, List.length_cons, List.length_nil, List.replicate, List.cons_append, List.nil_append, List.getElem?_cons_zero, List.getElem?_cons_succ, List.set_cons_zero, List.set_cons_succ, Nat.reduceAdd, Nat.reduceSub, Nat.reduceLeDiff, Nat.reduceLT, Nat.reduceMul, Int.reduceToNat, Int.reduceEq, Int.reduceAdd, Int.reduceSub, Int.reduceNeg, Bool.not_true, Bool.not_false, decide_true, decide_false, reduceIte, Nat.reduceEqDiff, ite_true, ite_false, e1, e2, hv, List.find?_cons, List.find?_nil, Sum.inr.injEq, Option.map_some, ops_ne]
      · rw [← e4, if_neg (fun z => hv (e3.mpr z))]
        simp only [m_law_result, mb_law_result, mOwnD, mPutD, mGetD, mPCons, mPNil, keysP, toKey, mergeP, putP, valP, List.foldl_cons, List.foldl_nil, List.any_cons, List.any_nil, List.find?_cons, List.find?_nil, Sum.inr.injEq, Option.map_some, Bool.or_false, Bool.or_true, Bool.true_or, Bool.false_or, dIntC, runF, mSeq, seqS, mAsg, mBin, mUn, mVar, mC, mRet, mNext, mIfS, mTest, mTruth, mAnd, mOr, mNot, mAndV, mOrV, mNotV, mCl, mCons, mNil, mCall, mDrop, mDrI, mDrNe, mDrIx, mDrLen, mDrSet, mDrPop, drL, isDr0, toS, fName, R.lift, bind_ok, bind_err, bind_bad, eAdd, eSub, eMul, eDiv, eMod, ePow, eNeg, eLt, eLe, eGt, eGe, eEqI, eNeI, eEqS, eEqB, eNeB, eIdxL, eIdxT, eBool, eAbs, Bool.false_eq_true, dList, dTup, if_true, if_false, if_pos, List.map_cons, List.map_nil, List.length_cons, List.length_nil, List.replicate, List.cons_append, List.nil_append, List.getElem?_cons_zero, List.getElem?_cons_succ, List.set_cons_zero, List.set_cons_succ, Nat.reduceAdd, Nat.reduceSub, Nat.reduceLeDiff, Nat.reduceLT, Nat.reduceMul, Int.reduceToNat, Int.reduceEq, Int.reduceAdd, Int.reduceSub, Int.reduceNeg, Bool.not_true, Bool.not_false, decide_true, decide_false, reduceIte, Nat.reduceEqDiff, ite_true, ite_false, ops_ne, tw_7, m1, c1, c2, c2', c3, hz, d1, d3] at e1 e2 ⊢
        simp only [runF, mSeq, seqS, mAsg, mBin, mUn, mVar, mC, mRet, mNext, mIfS, mTest, mTruth, mAnd, mOr, mNot, mAndV, mOrV, mNotV, mCl, mCons, mNil, mCall, mDrop, mDrI, mDrNe, mDrIx, mDrLen, mDrSet, mDrPop, drL, isDr0, toS, fName, R.lift, bind_ok, bind_err, bind_bad, eAdd, eSub, eMul, eDiv, eMod, ePow, eNeg, eLt, eLe, eGt, eGe, eEqI, eNeI, eEqS, eEqB, eNeB, eIdxL, eIdxT, eBool, eAbs, Bool.false_eq_true, dList, dTup, if_true, if_false, if_pos, List.map_cons, List.map_nil, List.length_cons, List.length_nil, List.replicate, List.cons_append, List.nil_append, List.getElem?_cons_zero, List.getElem?_cons_succ, List.set_cons_zero, List.set_cons_succ, Nat.reduceAdd, Nat.reduceSub, Nat.reduceLeDiff, Nat.reduceLT, Nat.reduceMul, Int.reduceToNat, Int.reduceEq, Int.reduceAdd, Int.reduceSub, Int.reduceNeg, Bool.not_true, Bool.not_false, decide_true, decide_false, reduceIte, Nat.reduceEqDiff, ite_true, ite_false, e1, e2, hv, List.find?_cons, List.find?_nil, Sum.inr.injEq, Option.map_some, ops_ne]
    · rcases hv with hv | hv
      · rw [← e4, if_pos (e3.mp hv)]
        simp only [m_law_result, mb_law_result, mOwnD, mPutD, mGetD, mPCons, mPNil, keysP, toKey, mergeP, putP, valP, List.foldl_cons, List.foldl_nil, List.any_cons, List.any_nil, List.find?_cons, List.find?_nil, Sum.inr.injEq, Option.map_some, Bool.or_false, Bool.or_true, Bool.true_or, Bool.false_or, dIntC, runF, mSeq, seqS, mAsg, mBin, mUn, mVar, mC, mRet, mNext, mIfS, mTest, mTruth, mAnd, mOr, mNot, mAndV, mOrV, mNotV, mCl, mCons, mNil, mCall, mDrop, mDrI, mDrNe, mDrIx, mDrLen, mDrSet, mDrPop, drL, isDr0, toS, fName, R.lift, bind_ok, bind_err, bind_bad, eAdd, eSub, eMul, eDiv, eMod, ePow, eNeg, eLt, eLe, eGt, eGe, eEqI, eNeI, eEqS, eEqB, eNeB, eIdxL, eIdxT, eBool, eAbs, Bool.false_eq_true, dList, dTup, if_true, if_false, if_pos, List.map_cons, List.map_nil, List.length_cons, List.length_nil, List.replicate, List.cons_append, List.nil_append, List.getElem?_cons_zero, List.getElem?_cons_succ, List.set_cons_zero, List.set_cons_succ, Nat.reduceAdd, Nat.reduceSub, Nat.reduceLeDiff, Nat.reduceLT, Nat.reduceMul, Int.reduceToNat, Int.reduceEq, Int.reduceAdd, Int.reduceSub, Int.reduceNeg, Bool.not_true, Bool.not_false, decide_true, decide_false, reduceIte, Nat.reduceEqDiff, ite_true, ite_false, ops_ne, tw_7, m1, c1, c2, c2', c3, hz, d1, d3] at e1 e2 ⊢
        simp only [runF, mSeq, seqS, mAsg, mBin, mUn, mVar, mC, mRet, mNext, mIfS, mTest, mTruth, mAnd, mOr, mNot, mAndV, mOrV, mNotV, mCl, mCons, mNil, mCall, mDrop, mDrI, mDrNe, mDrIx, mDrLen, mDrSet, mDrPop, drL, isDr0, toS, fName, R.lift, bind_ok, bind_err, bind_bad, eAdd, eSub, eMul, eDiv, eMod, ePow, eNeg, eLt, eLe, eGt, eGe, eEqI, eNeI, eEqS, eEqB, eNeB, eIdxL, eIdxT, eBool, eAbs, Bool.false_eq_true, dList, dTup, if_true, if_false, if_pos, List.map_cons, List.map_nil, List.length_cons, List.length_nil, List.replicate, List.cons_append, List.nil_append, List.getElem?_cons_zero, List.getElem?_cons_succ, List.set_cons_zero, List.set_cons_succ, Nat.reduceAdd, Nat.reduceSub, Nat.reduceLeDiff, Nat.reduceLT, Nat.reduceMul, Int.reduceToNat, Int.reduceEq, Int.reduceAdd, Int.reduceSub, Int.reduceNeg, Bool.not_true, Bool.not_false, decide_true, decide_false, reduceIte, Nat.reduceEqDiff, ite_true, ite_false, e1, e2, hv, List.find?_cons, List.find?_nil, Sum.inr.injEq, Option.map_some, ops_ne]
      · rw [← e4, if_neg (fun z => hv (e3.mpr z))]
        simp only [m_law_result, mb_law_result, mOwnD, mPutD, mGetD, mPCons, mPNil, keysP, toKey, mergeP, putP, valP, List.foldl_cons, List.foldl_nil, List.any_cons, List.any_nil, List.find?_cons, List.find?_nil, Sum.inr.injEq, Option.map_some, Bool.or_false, Bool.or_true, Bool.true_or, Bool.false_or, dIntC, runF, mSeq, seqS, mAsg, mBin, mUn, mVar, mC, mRet, mNext, mIfS, mTest, mTruth, mAnd, mOr, mNot, mAndV, mOrV, mNotV, mCl, mCons, mNil, mCall, mDrop, mDrI, mDrNe, mDrIx, mDrLen, mDrSet, mDrPop, drL, isDr0, toS, fName, R.lift, bind_ok, bind_err, bind_bad, eAdd, eSub, eMul, eDiv, eMod, ePow, eNeg, eLt, eLe, eGt, eGe, eEqI, eNeI, eEqS, eEqB, eNeB, eIdxL, eIdxT, eBool, eAbs, Bool.false_eq_true, dList, dTup, if_true, if_false, if_pos, List.map_cons, List.map_nil, List.length_cons, List.length_nil, List.replicate, List.cons_append, List.nil_append, List.getElem?_cons_zero, List.getElem?_cons_succ, List.set_cons_zero, List.set_cons_succ, Nat.reduceAdd, Nat.reduceSub, Nat.reduceLeDiff, Nat.reduceLT, Nat.reduceMul, Int.reduceToNat, Int.reduceEq, Int.reduceAdd, Int.reduceSub, Int.reduceNeg, Bool.not_true, Bool.not_false, decide_true, decide_false, reduceIte, Nat.reduceEqDiff, ite_true, ite_false, ops_ne, tw_7, m1, c1, c2, c2', c3, hz, d1, d3] at e1 e2 ⊢
        simp only [runF, mSeq, seqS, mAsg, mBin, mUn, mVar, mC, mRet, mNext, mIfS, mTest, mTruth, mAnd, mOr, mNot, mAndV, mOrV, mNotV, mCl, mCons, mNil, mCall, mDrop, mDrI, mDrNe, mDrIx, mDrLen, mDrSet, mDrPop, drL, isDr0, toS, fName, R.lift, bind_ok, bind_err, bind_bad, eAdd, eSub, eMul, eDiv, eMod, ePow, eNeg, eLt, eLe, eGt, eGe, eEqI, eNeI, eEqS, eEqB, eNeB, eIdxL, eIdxT, eBool, eAbs, Bool.false_eq_true, dList, dTup, if_true, if_false, if_pos, List.map_cons, List.map_nil, List.length_cons, List.length_nil, List.replicate, List.cons_append, List.nil_append, List.getElem?_cons_zero, List.getElem?_cons_succ, List.set_cons_zero, List.set_cons_succ, Nat.reduceAdd, Nat.reduceSub, Nat.reduceLeDiff, Nat.reduceLT, Nat.reduceMul, Int.reduceToNat, Int.reduceEq, Int.reduceAdd, Int.reduceSub, Int.reduceNeg, Bool.not_true, Bool.not_false, decide_true, decide_false, reduceIte, Nat.reduceEqDiff, ite_true, ite_false, e1, e2, hv, List.find?_cons, List.find?_nil, Sum.inr.injEq, Option.map_some, ops_ne]
theorem in_8 : dNotIn (.str "equal") k_OPERATORS = some (.bl false) := rfl
theorem tw_8 : dIn (.str "equal") (.tup [.str "//", .str "mod"]) = some (.bl false) := rfl
theorem ro_8 (A : Ad) {l r : Int} {s : Dr} (l0 : -(10 ^ 61) < l) (l1 : l < 10 ^ 61) (r0 : -(10 ^ 61) < r) (r1 : r < 10 ^ 61) : m_result_of A [.str "equal", .int l, .int r] s = .ok (.int (if decide (l = r) = true then (1 : Int) else 0)) s := by
  have m1 : CMulG l r := mulG (by omega) (by omega) (by omega) (by omega)
  simp only [m_result_of, mb_result_of, runF, mSeq, seqS, mAsg, mBin, mUn, mVar, mC, mRet, mNext, mIfS, mTest, mTruth, mAnd, mOr, mNot, mAndV, mOrV, mNotV, mCl, mCons, mNil, mCall, mDrop, mDrI, mDrNe, mDrIx, mDrLen, mDrSet, mDrPop, drL, isDr0, toS, fName, R.lift, bind_ok, bind_err, bind_bad, eAdd, eSub, eMul, eDiv, eMod, ePow, eNeg, eLt, eLe, eGt, eGe, eEqI, eNeI, eEqS, eEqB, eNeB, eIdxL, eIdxT, eBool, eAbs, Bool.false_eq_true, dList, dTup, if_true, if_false, if_pos, List.map_cons, List.map_nil, List.length_cons, List.length_nil, List.replicate, List.cons_append, List.nil_append, List.getElem?_cons_zero, List.getElem?_cons_succ, List.set_cons_zero, List.set_cons_succ, Nat.reduceAdd, Nat.reduceSub, Nat.reduceLeDiff, Nat.reduceLT, Nat.reduceMul, Int.reduceToNat, Int.reduceEq, Int.reduceAdd, Int.reduceSub, Int.reduceNeg, Bool.not_true, Bool.not_false, decide_true, decide_false, reduceIte, Nat.reduceEqDiff, ite_true, ite_false, ops_ne, dMin2, dMax2, dI2, dIntC, m1]
theorem lr_8 (A : Ad) {l r : Int} {s : Dr} (l0 : -(10 ^ 61) < l) (l1 : l < 10 ^ 61) (r0 : -(10 ^ 61) < r) (r1 : r < 10 ^ 61) (v0 : -(10 ^ 150) < (if decide (l = r) = true then (1 : Int) else 0)) (v1 : (if decide (l = r) = true then (1 : Int) else 0) < 10 ^ 150) : m_law_result A [.str "equal", .int l, .int r] s = .ok (dv (if decide (l = r) = true then (1 : Int) else 0)) s := by
  have m1 : CMulG l r := mulG (by omega) (by omega) (by omega) (by omega)
  obtain ⟨a0, a1⟩ := av_b v0 v1
  obtain ⟨L, e1, e2, e3⟩ := lenStr a0 a1
  unfold av at e1 e2
  have e4 : (if 10 ^ 60 ≤ av (if decide (l = r) = true then (1 : Int) else 0) then D.str "overflow" else D.int (if decide (l = r) = true then (1 : Int) else 0)) = dv (if decide (l = r) = true then (1 : Int) else 0) := rfl
  have hv : 60 < L ∨ ¬ 60 < L := Decidable.em _
  by_cases hr0 : r = 0
  · have hz : decide (r = 0) = true := decide_eq_true hr0
    refine tri l r (fun c1 c2 c2' c3 => ?_) (fun c1 c2 c2' c3 => ?_) (fun c1 c2 c2' c3 => ?_)
    · rcases hv with hv | hv
      · rw [← e4, if_pos (e3.mp hv)]
        simp only [m_law_result, mb_law_result, mOwnD, mPutD, mGetD, mPCons, mPNil, keysP, toKey, mergeP, putP, valP, List.foldl_cons, List.foldl_nil, List.any_cons, List.any_nil, List.find?_cons, List.find?_nil, Sum.inr.injEq, Option.map_some, Bool.or_false, Bool.or_true, Bool.true_or, Bool.false_or, dIntC, runF, mSeq, seqS, mAsg, mBin, mUn, mVar, mC, mRet, mNext, mIfS, mTest, mTruth, mAnd, mOr, mNot, mAndV, mOrV, mNotV, mCl, mCons, mNil, mCall, mDrop, mDrI, mDrNe, mDrIx, mDrLen, mDrSet, mDrPop, drL, isDr0, toS, fName, R.lift, bind_ok, bind_err, bind_bad, eAdd, eSub, eMul, eDiv, eMod, ePow, eNeg, eLt, eLe, eGt, eGe, eEqI, eNeI, eEqS, eEqB, eNeB, eIdxL, eIdxT, eBool, eAbs, Bool.false_eq_true, dList, dTup, if_true, if_false, if_pos, List.map_cons, List.map_nil, List.length_cons, List.length_nil, List.replicate, List.cons_append, List.nil_append, List.getElem?_cons_zero, List.getElem?_cons_succ, List.set_cons_zero, List.set_cons_succ, Nat.reduceAdd, Nat.reduceSub, Nat.reduceLeDiff, Nat.reduceLT, Nat.reduceMul, Int.reduceToNat, Int.reduceEq, Int.reduceAdd, Int.reduceSub, Int.reduceNeg, Bool.not_true, Bool.not_false, decide_true, decide_false, reduceIte, Nat.reduceEqDiff, ite_true, ite_false, ops_ne, tw_8, m1, c1, c2, c2', c3, hz] at e1 e2 ⊢
        simp only [runF, mSeq, seqS, mAsg, mBin, mUn, mVar, mC, mRet, mNext, mIfS, mTest, mTruth, mAnd, mOr, mNot, mAndV, mOrV, mNotV, mCl, mCons, mNil, mCall, mDrop, mDrI, mDrNe, mDrIx, mDrLen, mDrSet, mDrPop, drL, isDr0, toS, fName, R.lift, bind_ok, bind_err, bind_bad, eAdd, eSub, eMul, eDiv, eMod, ePow, eNeg, eLt, eLe, eGt, eGe, eEqI, eNeI, eEqS, eEqB, eNeB, eIdxL, eIdxT, eBool, eAbs, Bool.false_eq_true, dList, dTup, if_true, if_false, if_pos, List.map_cons, List.map_nil, List.length_cons, List.length_nil, List.replicate, List.cons_append, List.nil_append, List.getElem?_cons_zero, List.getElem?_cons_succ, List.set_cons_zero, List.set_cons_succ, Nat.reduceAdd, Nat.reduceSub, Nat.reduceLeDiff, Nat.reduceLT, Nat.reduceMul, Int.reduceToNat, Int.reduceEq, Int.reduceAdd, Int.reduceSub, Int.reduceNeg, Bool.not_true, Bool.not_false, decide_true, decide_false, reduceIte, Nat.reduceEqDiff, ite_true, ite_false, e1, e2, hv, List.find?_cons, List.find?_nil, Sum.inr.injEq, Option.map_some, ops_ne]
      · rw [← e4, if_neg (fun z => hv (e3.mpr z))]
        simp only [m_law_result, mb_law_result, mOwnD, mPutD, mGetD, mPCons, mPNil, keysP, toKey, mergeP, putP, valP, List.foldl_cons, List.foldl_nil, List.any_cons, List.any_nil, List.find?_cons, List.find?_nil, Sum.inr.injEq, Option.map_some, Bool.or_false, Bool.or_true, Bool.true_or, Bool.false_or, dIntC, runF, mSeq, seqS, mAsg, mBin, mUn, mVar, mC, mRet, mNext, mIfS, mTest, mTruth, mAnd, mOr, mNot, mAndV, mOrV, mNotV, mCl, mCons, mNil, mCall, mDrop, mDrI, mDrNe, mDrIx, mDrLen, mDrSet, mDrPop, drL, isDr0, toS, fName, R.lift, bind_ok, bind_err, bind_bad, eAdd, eSub, eMul, eDiv, eMod, ePow, eNeg, eLt, eLe, eGt, eGe, eEqI, eNeI, eEqS, eEqB, eNeB, eIdxL, eIdxT, eBool, eAbs, Bool.false_eq_true, dList, dTup, if_true, if_false, if_pos, List.map_cons, List.map_nil, List.length_cons, List.length_nil, List.replicate, List.cons_append, List.nil_append, List.getElem?_cons_zero, List.getElem?_cons_succ, List.set_cons_zero, List.set_cons_succ, Nat.reduceAdd, Nat.reduceSub, Nat.reduceLeDiff, Nat.reduceLT, Nat.reduceMul, Int.reduceToNat, Int.reduceEq, Int.reduceAdd, Int.reduceSub, Int.reduceNeg, Bool.not_true, Bool.not_false, decide_true, decide_false, reduceIte, Nat.reduceEqDiff, ite_true, ite_false, ops_ne, tw_8, m1, c1, c2, c2', c3, hz] at e1 e2 ⊢
        simp only [runF, mSeq, seqS, mAsg, mBin, mUn, mVar, mC, mRet, mNext, mIfS, mTest, mTruth, mAnd, mOr, mNot, mAndV, mOrV, mNotV, mCl, mCons, mNil, mCall, mDrop, mDrI, mDrNe, mDrIx, mDrLen, mDrSet, mDrPop, drL, isDr0, toS, fName, R.lift, bind_ok, bind_err, bind_bad, eAdd, eSub, eMul, eDiv, eMod, ePow, eNeg, eLt, eLe, eGt, eGe, eEqI, eNeI, eEqS, eEqB, eNeB, eIdxL, eIdxT, eBool, eAbs, Bool.false_eq_true, dList, dTup, if_true, if_false, if_pos, List.map_cons, List.map_nil, List.length_cons, List.length_nil, List.replicate, List.cons_append, List.nil_append, List.getElem?_cons_zero, List.getElem?_cons_succ, List.set_cons_zero, List.set_cons_succ, Nat.reduceAdd, Nat.reduceSub, Nat.reduceLeDiff, Nat.reduceLT, Nat.reduceMul, Int.reduceToNat, Int.reduceEq, Int.reduceAdd, Int.reduceSub, Int.reduceNeg, Bool.not_true, Bool.not_false, decide_true, decide_false, reduceIte, Nat.reduceEqDiff, ite_true, ite_false, e1, e2, hv, List.find?_cons, List.find?_nil, Sum.inr.injEq, Option.map_some, ops_ne]
    · rcases hv with hv | hv
      · rw [← e4, if_pos (e3.mp hv)]
        simp only [m_law_result, mb_law_result, mOwnD, mPutD, mGetD, mPCons, mPNil, keysP, toKey, mergeP, putP, valP, List.foldl_cons, List.foldl_nil, List.any_cons, List.any_nil, List.find?_cons, List.find?_nil, Sum.inr.injEq, Option.map_some, Bool.or_false, Bool.or_true, Bool.true_or, Bool.false_or, dIntC, runF, mSeq, seqS, mAsg, mBin, mUn, mVar, mC, mRet, mNext, mIfS, mTest, mTruth, mAnd, mOr, mNot, mAndV, mOrV, mNotV, mCl, mCons, mNil, mCall, mDrop, mDrI, mDrNe, mDrIx, mDrLen, mDrSet, mDrPop, drL, isDr0, toS, fName, R.lift, bind_ok, bind_err, bind_bad, eAdd, eSub, eMul, eDiv, eMod, ePow, eNeg, eLt, eLe, eGt, eGe, eEqI, eNeI, eEqS, eEqB, eNeB, eIdxL, eIdxT, eBool, eAbs, Bool.false_eq_true, dList, dTup, if_true, if_false, if_pos, List.map_cons, List.map_nil, List.length_cons, List.length_nil, List.replicate, List.cons_append, List.nil_append, List.getElem?_cons_zero, List.getElem?_cons_succ, List.set_cons_zero, List.set_cons_succ, Nat.reduceAdd, Nat.reduceSub, Nat.reduceLeDiff, Nat.reduceLT, Nat.reduceMul, Int.reduceToNat, Int.reduceEq, Int.reduceAdd, Int.reduceSub, Int.reduceNeg, Bool.not_true, Bool.not_false, decide_true, decide_false, reduceIte, Nat.reduceEqDiff, ite_true, ite_false, ops_ne, tw_8, m1, c1, c2, c2', c3, hz] at e1 e2 ⊢
        simp only [runF, mSeq, seqS, mAsg, mBin, mUn, mVar, mC, mRet, mNext, mIfS, mTest, mTruth, mAnd, mOr, mNot, mAndV, mOrV, mNotV, mCl, mCons, mNil, mCall, mDrop, mDrI, mDrNe, mDrIx, mDrLen, mDrSet, mDrPop, drL, isDr0, toS, fName, R.lift, bind_ok, bind_err, bind_bad, eAdd, eSub, eMul, eDiv, eMod, ePow, eNeg, eLt, eLe, eGt, eGe, eEqI, eNeI, eEqS, eEqB, eNeB, eIdxL, eIdxT, eBool, eAbs, Bool.false_eq_true, dList, dTup, if_true, if_false, if_pos, List.map_cons, List.map_nil, List.length_cons, List.length_nil, List.replicate, List.cons_append, List.nil_append, List.getElem?_cons_zero, List.getElem?_cons_succ, List.set_cons_zero, List.set_cons_succ, Nat.reduceAdd, Nat.reduceSub, Nat.reduceLeDiff, Nat.reduceLT, Nat.reduceMul, Int.reduceToNat, Int.reduceEq, Int.reduceAdd, Int.reduceSub, Int.reduceNeg, Bool.not_true, Bool.not_false, decide_true, decide_false, reduceIte, Nat.reduceEqDiff, ite_true, ite_false, e1, e2, hv, List.find?_cons, List.find?_nil, Sum.inr.injEq, Option.map_some, ops_ne]
      · rw [← e4, if_neg (fun z => hv (e3.mpr z))]
        simp only [m_law_result, mb_law_result, mOwnD, mPutD, mGetD, mPCons, mPNil, keysP, toKey, mergeP, putP, valP, List.foldl_cons, List.foldl_nil, List.any_cons, List.any_nil, List.find?_cons, List.find?_nil, Sum.inr.injEq, Option.map_some, Bool.or_false, Bool.or_true, Bool.true_or, Bool.false_or, dIntC, runF, mSeq, seqS, mAsg, mBin, mUn, mVar, mC, mRet, mNext, mIfS, mTest, mTruth, mAnd, mOr, mNot, mAndV, mOrV, mNotV, mCl, mCons, mNil, mCall, mDrop, mDrI, mDrNe, mDrIx, mDrLen, mDrSet, mDrPop, drL, isDr0, toS, fName, R.lift, bind_ok, bind_err, bind_bad, eAdd, eSub, eMul, eDiv, eMod, ePow, eNeg, eLt, eLe, eGt, eGe, eEqI, eNeI, eEqS, eEqB, eNeB, eIdxL, eIdxT, eBool, eAbs, Bool.false_eq_true, dList, dTup, if_true, if_false, if_pos, List.map_cons, List.map_nil, List.length_cons, List.length_nil, List.replicate, List.cons_append, List.nil_append, List.getElem?_cons_zero, List.getElem?_cons_succ, List.set_cons_zero, List.set_cons_succ, Nat.reduceAdd, Nat.reduceSub, Nat.reduceLeDiff, Nat.reduceLT, Nat.reduceMul, Int.reduceToNat, Int.reduceEq, Int.reduceAdd, Int.reduceSub, Int.reduceNeg, Bool.not_true, Bool.not_false, decide_true, decide_false, reduceIte, Nat.reduceEqDiff, ite_true, ite_false, ops_ne, tw_8, m1, c1, c2, c2', c3, hz] at e1 e2 ⊢
        simp only [runF, mSeq, seqS, mAsg, mBin, mUn, mVar, mC, mRet, mNext, mIfS, mTest, mTruth, mAnd, mOr, mNot, mAndV, mOrV, mNotV, mCl, mCons, mNil, mCall, mDrop, mDrI, mDrNe, mDrIx, mDrLen, mDrSet, mDrPop, drL, isDr0, toS, fName, R.lift, bind_ok, bind_err, bind_bad, eAdd, eSub, eMul, eDiv, eMod, ePow, eNeg, eLt, eLe, eGt, eGe, eEqI, eNeI, eEqS, eEqB, eNeB, eIdxL, eIdxT, eBool, eAbs, Bool.false_eq_true, dList, dTup, if_true, if_false, if_pos, List.map_cons, List.map_nil, List.length_cons, List.length_nil, List.replicate, List.cons_append, List.nil_append, List.getElem?_cons_zero, List.getElem?_cons_succ, List.set_cons_zero, List.set_cons_succ, Nat.reduceAdd, Nat.reduceSub, Nat.reduceLeDiff, Nat.reduceLT, Nat.reduceMul, Int.reduceToNat, Int.reduceEq, Int.reduceAdd, Int.reduceSub, Int.reduceNeg, Bool.not_true, Bool.not_false, decide_true, decide_false, reduceIte, Nat.reduceEqDiff, ite_true, ite_false, e1, e2, hv, List.find?_cons, List.find?_nil, Sum.inr.injEq, Option.map_some, ops_ne]
    · rcases hv with hv | hv
      · rw [← e4, if_pos (e3.mp hv)]
        simp only [m_law_result, mb_law_result, mOwnD, mPutD, mGetD, mPCons, mPNil, keysP, toKey, mergeP, putP, valP, List.foldl_cons, List.foldl_nil, List.any_cons, List.any_nil, List.find?_cons, List.find?_nil, Sum.inr.injEq, Option.map_some, Bool.or_false, Bool.or_true, Bool.true_or, Bool.false_or, dIntC, runF, mSeq, seqS, mAsg, mBin, mUn, mVar, mC, mRet, mNext, mIfS, mTest, mTruth, mAnd, mOr, mNot, mAndV, mOrV, mNotV, mCl, mCons, mNil, mCall, mDrop, mDrI, mDrNe, mDrIx, mDrLen, mDrSet, mDrPop, drL, isDr0, toS, fName, R.lift, bind_ok, bind_err, bind_bad, eAdd, eSub, eMul, eDiv, eMod, ePow, eNeg, eLt, eLe, eGt, eGe, eEqI, eNeI, eEqS, eEqB, eNeB, eIdxL, eIdxT, eBool, eAbs, Bool.false_eq_true, dList, dTup, if_true, if_false, if_pos, List.map_cons, List.map_nil, List.length_cons, List.length_nil, List.replicate, List.cons_append, List.nil_append, List.getElem?_cons_zero, List.getElem?_cons_succ, List.set_cons_zero, List.set_cons_succ, Nat.reduceAdd, Nat.reduceSub, Nat.reduceLeDiff, Nat.reduceLT, Nat.reduceMul, Int.reduceToNat, Int.reduceEq, Int.reduceAdd, Int.reduceSub, Int.reduceNeg, Bool.not_true, Bool.not_false, decide_true, decide_false, reduceIte, Nat.reduceEqDiff, ite_true, ite_false, ops_ne, tw_8, m1, c1, c2, c2', c3, hz] at e1 e2 ⊢
        simp only [runF, mSeq, seqS, mAsg, mBin, mUn, mVar, mC, mRet, mNext, mIfS, mTest, mTruth, mAnd, mOr, mNot, mAndV, mOrV, mNotV, mCl, mCons, mNil, mCall, mDrop, mDrI, mDrNe, mDrIx, mDrLen, mDrSet, mDrPop, drL, isDr0, toS, fName, R.lift, bind_ok, bind_err, bind_bad, eAdd, eSub, eMul, eDiv, eMod, ePow, eNeg, eLt, eLe, eGt, eGe, eEqI, eNeI, eEqS, eEqB, eNeB, eIdxL, eIdxT, eBool, eAbs, Bool.false_eq_true, dList, dTup, if_true, if_false, if_pos, List.map_cons, List.map_nil, List.length_cons, List.length_nil, List.replicate, List.cons_append, List.nil_append, List.getElem?_cons_zero, List.getElem?_cons_succ, List.set_cons_zero, List.set_cons_succ, Nat.reduceAdd, Nat.reduceSub, Nat.reduceLeDiff, Nat.reduceLT, Nat.reduceMul, Int.reduceToNat, Int.reduceEq, Int.reduceAdd, Int.reduceSub, Int.reduceNeg, Bool.not_true, Bool.not_false, decide_true, decide_false, reduceIte, Nat.reduceEqDiff, ite_true, ite_false, e1, e2, hv, List.find?_cons, List.find?_nil, Sum.inr.injEq, Option.map_some, ops_ne]
      · rw [← e4, if_neg (fun z => hv (e3.mpr z))]
        simp only [m_law_result, mb_law_result, mOwnD, mPutD, mGetD, mPCons, mPNil, keysP, toKey, mergeP, putP, valP, List.foldl_cons, List.foldl_nil, List.any_cons, List.any_nil, List.find?_cons, List.find?_nil, Sum.inr.injEq, Option.map_some, Bool.or_false, Bool.or_true, Bool.true_or, Bool.false_or, dIntC, runF, mSeq, seqS, mAsg, mBin, mUn, mVar, mC, mRet, mNext, mIfS, mTest, mTruth, mAnd, mOr, mNot, mAndV, mOrV, mNotV, mCl, mCons, mNil, mCall, mDrop, mDrI, mDrNe, mDrIx, mDrLen, mDrSet, mDrPop, drL, isDr0, toS, fName, R.lift, bind_ok, bind_err, bind_bad, eAdd, eSub, eMul, eDiv, eMod, ePow, eNeg, eLt, eLe, eGt, eGe, eEqI, eNeI, eEqS, eEqB, eNeB, eIdxL, eIdxT, eBool, eAbs, Bool.false_eq_true, dList, dTup, if_true, if_false, if_pos, List.map_cons, List.map_nil, List.length_cons, List.length_nil, List.replicate, List.cons_append, List.nil_append, List.getElem?_cons_zero, List.getElem?_cons_succ, List.set_cons_zero, List.set_cons_succ, Nat.reduceAdd, Nat.reduceSub, Nat.reduceLeDiff, Nat.reduceLT, Nat.reduceMul, Int.reduceToNat, Int.reduceEq, Int.reduceAdd, Int.reduceSub, Int.reduceNeg, Bool.not_true, Bool.not_false, decide_true, decide_false, reduceIte, Nat.reduceEqDiff, ite_true, ite_false, ops_ne, tw_8, m1, c1, c2, c2', c3, hz] at e1 e2 ⊢
        simp only [runF, mSeq, seqS, mAsg, mBin, mUn, mVar, mC, mRet, mNext, mIfS, mTest, mTruth, mAnd, mOr, mNot, mAndV, mOrV, mNotV, mCl, mCons, mNil, mCall, mDrop, mDrI, mDrNe, mDrIx, mDrLen, mDrSet, mDrPop, drL, isDr0, toS, fName, R.lift, bind_ok, bind_err, bind_bad, eAdd, eSub, eMul, eDiv, eMod, ePow, eNeg, eLt, eLe, eGt, eGe, eEqI, eNeI, eEqS, eEqB, eNeB, eIdxL, eIdxT, eBool, eAbs, Bool.false_eq_true, dList, dTup, if_true, if_false, if_pos, List.map_cons, List.map_nil, List.length_cons, List.length_nil, List.replicate, List.cons_append, List.nil_append, List.getElem?_cons_zero, List.getElem?_cons_succ, List.set_cons_zero, List.set_cons_succ, Nat.reduceAdd, Nat.reduceSub, Nat.reduceLeDiff, Nat.reduceLT, Nat.reduceMul, Int.reduceToNat, Int.reduceEq, Int.reduceAdd, Int.reduceSub, Int.reduceNeg, Bool.not_true, Bool.not_false, decide_true, decide_false, reduceIte, Nat.reduceEqDiff, ite_true, ite_false, e1, e2, hv, List.find?_cons, List.find?_nil, Sum.inr.injEq, Option.map_some, ops_ne]
  · have hz : decide (r = 0) = false := decide_eq_false hr0
    have d1 : CDivG l r := divG hr0 (by omega) (by omega)
    have f := fdiv_b l0 l1 hr0
    have d3 : CMulG r (l.fdiv r) := mulG (by omega) (by omega) (by omega) (by omega)
    refine tri l r (fun c1 c2 c2' c3 => ?_) (fun c1 c2 c2' c3 => ?_) (fun c1 c2 c2' c3 => ?_)
    · rcases hv with hv | hv
      · rw [← e4, if_pos (e3.mp hv)]
        simp only [m_law_result, mb_law_result, mOwnD, mPutD, mGetD, mPCons, mPNil, keysP, toKey, mergeP, putP, valP, List.foldl_cons, List.foldl_nil, List.any_cons, List.any_nil, List.find?_cons, List.find?_nil, Sum.inr.injEq, Option.map_some, Bool.or_false, Bool.or_true, Bool.true_or, Bool.false_or, dIntC, runF, mSeq, seqS, mAsg, mBin, mUn, mVar, mC, mRet, mNext, mIfS, mTest, mTruth, mAnd, mOr, mNot, mAndV, mOrV, mNotV, mCl, mCons, mNil, mCall, mDrop, mDrI, mDrNe, mDrIx, mDrLen, mDrSet, mDrPop, drL, isDr0, toS, fName, R.lift, bind_ok, bind_err, bind_bad, eAdd, eSub, eMul, eDiv, eMod, ePow, eNeg, eLt, eLe, eGt, eGe, eEqI, eNeI, eEqS, eEqB, eNeB, eIdxL, eIdxT, eBool, eAbs, Bool.false_eq_true, dList, dTup, if_true, if_false, if_pos, List.map_cons, List.map_nil, List.length_cons, List.length_nil, List.replicate, List.cons_append, List.nil_append, List.getElem?_cons_zero, List.getElem?_cons_succ, List.set_cons_zero, List.set_cons_succ, Nat.reduceAdd, Nat.reduceSub, Nat.reduceLeDiff, Nat.reduceLT, Nat.reduceMul, Int.reduceToNat, Int.reduceEq, Int.reduceAdd, Int.reduceSub, Int.reduceNeg, Bool.not_true, Bool.not_false, decide_true, decide_false, reduceIte, Nat.reduceEqDiff, ite_true, ite_false, ops_ne, tw_8, m1, c1, c2, c2', c3, hz, d1, d3] at e1 e2 ⊢
        simp only [runF, mSeq, seqS, mAsg, mBin, mUn, mVar, mC, mRet, mNext, mIfS, mTest, mTruth, mAnd, mOr, mNot, mAndV, mOrV, mNotV, mCl, mCons, mNil, mCall, mDrop, mDrI, mDrNe, mDrIx, mDrLen, mDrSet, mDrPop, drL, isDr0, toS, fName, R.lift, bind_ok, bind_err, bind_bad, eAdd, eSub, eMul, eDiv, eMod, ePow, eNeg, eLt, eLe, eGt, eGe, eEqI, eNeI, eEqS, eEqB, eNeB, eIdxL, eIdxT, eBool, eAbs, Bool.false_eq_true, dList, dTup, if_true, if_false, if_pos, List.map_cons, List.map_nil, List.length_cons, List.length_nil, List.replicate, List.cons_append, List.nil_append, List.getElem?_cons_zero, List.getElem?_cons_succ, List.set_cons_zero, List.set_cons_succ, Nat.reduceAdd, Nat.reduceSub, Nat.reduceLeDiff, Nat.reduceLT, Nat.reduceMul, Int.reduceToNat, Int.reduceEq, Int.reduceAdd, Int.reduceSub, Int.reduceNeg, Bool.not_true, Bool.not_false, decide_true, decide_false, reduceIte, Nat.reduceEqDiff, ite_true, ite_false, e1, e2, hv, List.find?_cons, List.find?_nil, Sum.inr.injEq, Option.map_some, ops_ne]
      · rw [← e4, if_neg (fun z => hv (e3.mpr z))]
        simp only [m_law_result, mb_law_result, mOwnD, mPutD, mGetD, mPCons, mPNil, keysP, toKey, mergeP, putP, valP, List.foldl_cons, List.foldl_nil, List.any_cons, List.any_nil, List.find?_cons, List.find?_nil, Sum.inr.injEq, Option.map_some, Bool.or_false, Bool.or_true, Bool.true_or, Bool.false_or, dIntC, runF, mSeq, seqS, mAsg, mBin, mUn, mVar, mC, mRet, mNext, mIfS, mTest, mTruth, mAnd, mOr, mNot, mAndV, mOrV, mNotV, mCl, mCons, mNil, mCall, mDrop, mDrI, mDrNe, mDrIx, mDrLen, mDrSet, mDrPop, drL, isDr0, toS, fName, R.lift, bind_ok, bind_err, bind_bad, eAdd, eSub, eMul, eDiv, eMod, ePow, eNeg, eLt, eLe, eGt, eGe, eEqI, eNeI, eEqS, eEqB, eNeB, eIdxL, eIdxT, eBool, eAbs, Bool.false_eq_true, dList, dTup, if_true, if_false, if_pos, List.map_cons, List.map_nil, List.length_cons, List.length_nil, List.replicate, List.cons_append, List.nil_append, List.getElem?_cons_zero, List.getElem?_cons_succ, List.set_cons_zero, List.set_cons_succ, Nat.reduceAdd, Nat.reduceSub, Nat.reduceLeDiff, Nat.reduceLT, Nat.reduceMul, Int.reduceToNat, Int.reduceEq, Int.reduceAdd, Int.reduceSub, Int.reduceNeg, Bool.not_true, Bool.not_false, decide_true, decide_false, reduceIte, Nat.reduceEqDiff, ite_true, ite_false, ops_ne, tw_8, m1, c1, c2, c2', c3, hz, d1, d3] at e1 e2 ⊢
        simp only [runF, mSeq, seqS, mAsg, mBin, mUn, mVar, mC, mRet, mNext, mIfS, mTest, mTruth, mAnd, mOr, mNot, mAndV, mOrV, mNotV, mCl, mCons, mNil, mCall, mDrop, mDrI, mDrNe, mDrIx, mDrLen, mDrSet, mDrPop, drL, isDr0, toS, fName, R.lift, bind_ok, bind_err, bind_bad, eAdd, eSub, eMul, eDiv, eMod, ePow, eNeg, eLt, eLe, eGt, eGe, eEqI, eNeI, eEqS, eEqB, eNeB, eIdxL, eIdxT, eBool, eAbs, Bool.false_eq_true, dList, dTup, if_true, if_false, if_pos, List.map_cons, List.map_nil, List.length_cons, List.length_nil, List.replicate, List.cons_append, List.nil_append, List.getElem?_cons_zero, List.getElem?_cons_succ, List.set_cons_zero, List.set_cons_succ, Nat.reduceAdd, Nat.reduceSub, Nat.reduceLeDiff, Nat.reduceLT, Nat.reduceMul, Int.reduceToNat, Int.reduceEq, Int.reduceAdd, Int.reduceSub, Int.reduceNeg, Bool.not_true, Bool.not_false, decide_true, decide_false, reduceIte, Nat.reduceEqDiff, ite_true, ite_false, e1, e2, hv, List.find?_cons, List.find?_nil, Sum.inr.injEq, Option.map_some, ops_ne]
    · rcases hv with hv | hv
      · rw [← e4, if_pos (e3.mp hv)]
        simp only [m_law_result, mb_law_result, mOwnD, mPutD, mGetD, mPCons, mPNil, keysP, toKey, mergeP, putP, valP, List.foldl_cons, List.foldl_nil, List.any_cons, List.any_nil, List.find?_cons, List.find?_nil, Sum.inr.injEq, Option.map_some, Bool.or_false, Bool.or_true, Bool.true_or, Bool.false_or, dIntC, runF, mSeq, seqS, mAsg, mBin, mUn, mVar, mC, mRet, mNext, mIfS, mTest, mTruth, mAnd, mOr, mNot, mAndV, mOrV, mNotV, mCl, mCons, mNil, mCall, mDrop, mDrI, mDrNe, mDrIx, mDrLen, mDrSet, mDrPop, drL, isDr0, toS, fName, R.lift, bind_ok, bind_err, bind_bad, eAdd, eSub, eMul, eDiv, eMod, ePow, eNeg, eLt, eLe, eGt, eGe, eEqI, eNeI, eEqS, eEqB, eNeB, eIdxL, eIdxT, eBool, eAbs, Bool.false_eq_true, dList, dTup, if_true, if_false, if_pos, List.map_cons, List.map_nil, List.length_cons, List.length_nil, List.replicate, List.cons_append, List.nil_append, List.getElem?_cons_zero, List.getElem?_cons_succ, List.set_cons_zero, List.set_cons_succ, Nat.reduceAdd, Nat.reduceSub, Nat.reduceLeDiff, Nat.reduceLT, Nat.reduceMul, Int.reduceToNat, Int.reduceEq, Int.reduceAdd, Int.reduceSub, Int.reduceNeg, Bool.not_true, Bool.not_false, decide_true, decide_false, reduceIte, Nat.reduceEqDiff, ite_true, ite_false, ops_ne, tw_8, m1, c1, c2, c2', c3, hz, d1, d3] at e1 e2 ⊢
        simp only [runF, mSeq, seqS, mAsg, mBin, mUn, mVar, mC, mRet, mNext, mIfS, mTest, mTruth, mAnd, mOr, mNot, mAndV, mOrV, mNotV, mCl, mCons, mNil, mCall, mDrop, mDrI, mDrNe, mDrIx, mDrLen, mDrSet, mDrPop, drL, isDr0, toS, fName, R.lift, bind_ok, bind_err, bind_bad, eAdd, eSub, eMul, eDiv, eMod, ePow, eNeg, eLt, eLe, eGt, eGe, eEqI, eNeI, eEqS, eEqB, eNeB, eIdxL, eIdxT, eBool, eAbs, Bool.false_eq_true, dList, dTup, if_true, if_false, if_pos, List.map_cons, List.map_nil, List.length_cons, List.length_nil, List.replicate, List.cons_append, List.nil_append, List.getElem?_cons_zero, List.getElem?_cons_succ, List.set_cons_zero, List.set_cons_succ, Nat.reduceAdd, Nat.reduceSub, Nat.reduceLeDiff, Nat.reduceLT, Nat.reduceMul, Int.reduceToNat, Int.reduceEq, Int.reduceAdd, Int.reduceSub, Int.reduceNeg, Bool.not_true, Bool.not_false, decide_true, decide_false, reduceIte, Nat.reduceEqDiff, ite_true, ite_false, e1, e2, hv, List.find?_cons, List.find?_nil, Sum.inr.injEq, Option.map_some, ops_ne]
      · rw [← e4, if_neg (fun z => hv (e3.mpr z))]
        simp only [m_law_result, mb_law_result, mOwnD, mPutD, mGetD, mPCons, mPNil, keysP, toKey, mergeP, putP, valP, List.foldl_cons, List.foldl_nil, List.any_cons, List.any_nil, List.find?_cons, List.find?_nil, Sum.inr.injEq, Option.map_some, Bool.or_false, Bool.or_true, Bool.true_or, Bool.false_or, dIntC, runF, mSeq, seqS, mAsg, mBin, mUn, mVar, mC, mRet, mNext, mIfS, mTest, mTruth, mAnd, mOr, mNot, mAndV, mOrV, mNotV, mCl, mCons, mNil, mCall, mDrop, mDrI, mDrNe, mDrIx, mDrLen, mDrSet, mDrPop, drL, isDr0, toS, fName, R.lift, bind_ok, bind_err, bind_bad, eAdd, eSub, eMul, eDiv, eMod, ePow, eNeg, eLt, eLe, eGt, eGe, eEqI, eNeI, eEqS, eEqB, eNeB, eIdxL, eIdxT, eBool, eAbs, Bool.false_eq_true, dList, dTup, if_true, if_false, if_pos, List.map_cons, List.map_nil, List.length_cons, List.length_nil, List.replicate, List.cons_append, List.nil_append, List.getElem?_cons_zero, List.getElem?_cons_succ, List.set_cons_zero, List.set_cons_succ, Nat.reduceAdd, Nat.reduceSub, Nat.reduceLeDiff, Nat.reduceLT, Nat.reduceMul, Int.reduceToNat, Int.reduceEq, Int.reduceAdd, Int.reduceSub, Int.reduceNeg, Bool.not_true, Bool.not_false, decide_true, decide_false, reduceIte, Nat.reduceEqDiff, ite_true, ite_false, ops_ne, tw_8, m1, c1, c2, c2', c3, hz, d1, d3] at e1 e2 ⊢
        simp only [runF, mSeq, seqS, mAsg, mBin, mUn, mVar, mC, mRet, mNext, mIfS, mTest, mTruth, mAnd, mOr, mNot, mAndV, mOrV, mNotV, mCl, mCons, mNil, mCall, mDrop, mDrI, mDrNe, mDrIx, mDrLen, mDrSet, mDrPop, drL, isDr0, toS, fName, R.lift, bind_ok, bind_err, bind_bad, eAdd, eSub, eMul, eDiv, eMod, ePow, eNeg, eLt, eLe, eGt, eGe, eEqI, eNeI, eEqS, eEqB, eNeB, eIdxL, eIdxT, eBool, eAbs, Bool.false_eq_true, dList, dTup, if_true, if_false, if_pos, List.map_cons, List.map_nil, List.length_cons, List.length_nil, List.replicate, List.cons_append, List.nil_append, List.getElem?_cons_zero, List.getElem?_cons_succ, List.set_cons_zero, List.set_cons_succ, Nat.reduceAdd, Nat.reduceSub, Nat.reduceLeDiff, Nat.reduceLT, Nat.reduceMul, Int.reduceToNat, Int.reduceEq, Int.reduceAdd, Int.reduceSub, Int.reduceNeg, Bool.not_true, Bool.not_false, decide_true, decide_false, reduceIte, Nat.reduceEqDiff, ite_true, ite_false, e1, e2, hv, List.find?_cons, List.find?_nil, Sum.inr.injEq, Option.map_some, ops_ne]
    · rcases hv with hv | hv
      · rw [← e4, if_pos (e3.mp hv)]
        simp only [m_law_result, mb_law_result, mOwnD, mPutD, mGetD, mPCons, mPNil, keysP, toKey, mergeP, putP, valP, List.foldl_cons, List.foldl_nil, List.any_cons, List.any_nil, List.find?_cons, List.find?_nil, Sum.inr.injEq, Option.map_some, Bool.or_false, Bool.or_true, Bool.true_or, Bool.false_or, dIntC, runF, mSeq, seqS, mAsg, mBin, mUn, mVar, mC, mRet, mNext, mIfS, mTest, mTruth, mAnd, mOr, mNot, mAndV, mOrV, mNotV, mCl, mCons, mNil, mCall, mDrop, mDrI, mDrNe, mDrIx, mDrLen, mDrSet, mDrPop, drL, isDr0, toS, fName, R.lift, bind_ok, bind_err, bind_bad, eAdd, eSub, eMul, eDiv, eMod, ePow, eNeg, eLt, eLe, eGt, eGe, eEqI, eNeI, eEqS, eEqB, eNeB, eIdxL, eIdxT, eBool, eAbs, Bool.false_eq_true, dList, dTup, if_true, if_false, if_pos, List.map_cons, List.map_nil, List.length_cons, List.length_nil, List.replicate, List.cons_append, List.nil_append, List.getElem?_cons_zero, List.getElem?_cons_succ, List.set_cons_zero, List.set_cons_succ, Nat.reduceAdd, Nat.reduceSub, Nat.reduceLeDiff, Nat.reduceLT, Nat.reduceMul, Int.reduceToNat, Int.reduceEq, Int.reduceAdd, Int.reduceSub, Int.reduceNeg, Bool.not_true, Bool.not_false, decide_true, decide_false, reduceIte, Nat.reduceEqDiff, ite_true, ite_false, ops_ne, tw_8, m1, c1, c2, c2', c3, hz, d1, d3] at e1 e2 ⊢
        simp only [runF, mSeq, seqS, mAsg, mBin, mUn, mVar, mC, mRet, mNext, mIfS, mTest, mTruth, mAnd, mOr, mNot, mAndV, mOrV, mNotV, mCl, mCons, mNil, mCall, mDrop, mDrI, mDrNe, mDrIx, mDrLen, mDrSet, mDrPop, drL, isDr0, toS, fName, R.lift, bind_ok, bind_err, bind_bad, eAdd, eSub, eMul, eDiv, eMod, ePow, eNeg, eLt, eLe, eGt, eGe, eEqI, eNeI, eEqS, eEqB, eNeB, eIdxL, eIdxT, eBool, eAbs, Bool.false_eq_true, dList, dTup, if_true, if_false, if_pos, List.map_cons, List.map_nil, List.length_cons, List.length_nil, List.replicate, List.cons_append, List.nil_append, List.getElem?_cons_zero, List.getElem?_cons_succ, List.set_cons_zero, List.set_cons_succ, Nat.reduceAdd, Nat.reduceSub, Nat.reduceLeDiff, Nat.reduceLT, Nat.reduceMul, Int.reduceToNat, Int.reduceEq, Int.reduceAdd, Int.reduceSub, Int.reduceNeg, Bool.not_true, Bool.not_false, decide_true, decide_false, reduceIte, Nat.reduceEqDiff, ite_true, ite_false, e1, e2, hv, List.find?_cons, List.find?_nil, Sum.inr.injEq, Option.map_some, ops_ne]
      · rw [← e4, if_neg (fun z => hv (e3.mpr z))]
        simp only [m_law_result, mb_law_result, mOwnD, mPutD, mGetD, mPCons, mPNil, keysP, toKey, mergeP, putP, valP, List.foldl_cons, List.foldl_nil, List.any_cons, List.any_nil, List.find?_cons, List.find?_nil, Sum.inr.injEq, Option.map_some, Bool.or_false, Bool.or_true, Bool.true_or, Bool.false_or, dIntC, runF, mSeq, seqS, mAsg, mBin, mUn, mVar, mC, mRet, mNext, mIfS, mTest, mTruth, mAnd, mOr, mNot, mAndV, mOrV, mNotV, mCl, mCons, mNil, mCall, mDrop, mDrI, mDrNe, mDrIx, mDrLen, mDrSet, mDrPop, drL, isDr0, toS, fName, R.lift, bind_ok, bind_err, bind_bad, eAdd, eSub, eMul, eDiv, eMod, ePow, eNeg, eLt, eLe, eGt, eGe, eEqI, eNeI, eEqS, eEqB, eNeB, eIdxL, eIdxT, eBool, eAbs, Bool.false_eq_true, dList, dTup, if_true, if_false, if_pos, List.map_cons, List.map_nil, List.length_cons, List.length_nil, List.replicate, List.cons_append, List.nil_append, List.getElem?_cons_zero, List.getElem?_cons_succ, List.set_cons_zero, List.set_cons_succ, Nat.reduceAdd, Nat.reduceSub, Nat.reduceLeDiff, Nat.reduceLT, Nat.reduceMul, Int.reduceToNat, Int.reduceEq, Int.reduceAdd, Int.reduceSub, Int.reduceNeg, Bool.not_true, Bool.not_false, decide_true, decide_false, reduceIte, Nat.reduceEqDiff, ite_true, ite_false, ops_ne, tw_8, m1, c1, c2, c2', c3, hz, d1, d3] at e1 e2 ⊢
        simp only [runF, mSeq, seqS, mAsg, mBin, mUn, mVar, mC, mRet, mNext, mIfS, mTest, mTruth, mAnd, mOr, mNot, mAndV, mOrV, mNotV, mCl, mCons, mNil, mCall, mDrop, mDrI, mDrNe, mDrIx, mDrLen, mDrSet, mDrPop, drL, isDr0, toS, fName, R.lift, bind_ok, bind_err, bind_bad, eAdd, eSub, eMul, eDiv, eMod, ePow, eNeg, eLt, eLe, eGt, eGe, eEqI, eNeI, eEqS, eEqB, eNeB, eIdxL, eIdxT, eBool, eAbs, Bool.false_eq_true, dList, dTup, if_true, if_false, if_pos, List.map_cons, List.map_nil, List.length_cons, List.length_nil, List.replicate, List.cons_append, List.nil_append, List.getElem?_cons_zero, List.getElem?_cons_succ, List.set_cons_zero, List.set_cons_succ, Nat.reduceAdd, Nat.reduceSub, Nat.reduceLeDiff, Nat.reduceLT, Nat.reduceMul, Int.reduceToNat, Int.reduceEq, Int.reduceAdd, Int.reduceSub, Int.reduceNeg, Bool.not_true, Bool.not_false, decide_true, decide_false, reduceIte, Nat.reduceEqDiff, ite_true, ite_false, e1, e2, hv, List.find?_cons, List.find?_nil, Sum.inr.injEq, Option.map_some, ops_ne]

theorem kind_op (A : Ad) (J : A.toCa.Inj) (he : Er.OperatorError ∈ A.es) (x : Str) (s : Dr) : m_law_kind A (A.c .OperatorError) [("operator", .str x)] s = .ok (.tup [.str "operator", .str x]) s := by
  have t1 : A.toCa.t .OperatorError (A.c .OperatorError) = some true := Ca.t_c J he _
  have t2 : A.toCa.t .FaultError (A.c .OperatorError) = some false := Ca.t_c J he _
  have t3 : A.toCa.t .AxisError (A.c .OperatorError) = some false := Ca.t_c J he _
  have t4 : A.toCa.tL (A.c .OperatorError) = some true := Ca.tL_c J he
  have c1 : dCountB [.bl true, .bl false, .bl false] (.bl true) = some (.int 1) := rfl
  have l1 : List.lookup ("operator" : Str) [(("operator" : Str), D.str x)] = some (.str x) := by simp [List.lookup]
  simp only [m_law_kind, runX, mb_law_kind, mIsX, mCountB, mXf, mIf, dTruth, runF, mSeq, seqS, mAsg, mBin, mUn, mVar, mC, mRet, mNext, mIfS, mTest, mTruth, mAnd, mOr, mNot, mAndV, mOrV, mNotV, mCl, mCons, mNil, mCall, mDrop, mDrI, mDrNe, mDrIx, mDrLen, mDrSet, mDrPop, drL, isDr0, toS, fName, R.lift, bind_ok, bind_err, bind_bad, eAdd, eSub, eMul, eDiv, eMod, ePow, eNeg, eLt, eLe, eGt, eGe, eEqI, eNeI, eEqS, eEqB, eNeB, eIdxL, eIdxT, eBool, eAbs, Bool.false_eq_true, dList, dTup, if_true, if_false, if_pos, List.map_cons, List.map_nil, List.length_cons, List.length_nil, List.replicate, List.cons_append, List.nil_append, List.getElem?_cons_zero, List.getElem?_cons_succ, List.set_cons_zero, List.set_cons_succ, Nat.reduceAdd, Nat.reduceSub, Nat.reduceLeDiff, Nat.reduceLT, Nat.reduceMul, Int.reduceToNat, Int.reduceEq, Int.reduceAdd, Int.reduceSub, Int.reduceNeg, Bool.not_true, Bool.not_false, decide_true, decide_false, reduceIte, Nat.reduceEqDiff, ite_true, ite_false, t1, t2, t3, t4, c1, l1, at0, at1, Option.map_some]
theorem kind_fault (A : Ad) (J : A.toCa.Inj) (he : Er.FaultError ∈ A.es) (x : Str) (s : Dr) : m_law_kind A (A.c .FaultError) [("reason", .str x)] s = .ok (.tup [.str "fault", .str x]) s := by
  have t1 : A.toCa.t .OperatorError (A.c .FaultError) = some false := Ca.t_c J he _
  have t2 : A.toCa.t .FaultError (A.c .FaultError) = some true := Ca.t_c J he _
  have t3 : A.toCa.t .AxisError (A.c .FaultError) = some false := Ca.t_c J he _
  have t4 : A.toCa.tL (A.c .FaultError) = some true := Ca.tL_c J he
  have c1 : dCountB [.bl false, .bl true, .bl false] (.bl true) = some (.int 1) := rfl
  have l1 : List.lookup ("reason" : Str) [(("reason" : Str), D.str x)] = some (.str x) := by simp [List.lookup]
  simp only [m_law_kind, runX, mb_law_kind, mIsX, mCountB, mXf, mIf, dTruth, runF, mSeq, seqS, mAsg, mBin, mUn, mVar, mC, mRet, mNext, mIfS, mTest, mTruth, mAnd, mOr, mNot, mAndV, mOrV, mNotV, mCl, mCons, mNil, mCall, mDrop, mDrI, mDrNe, mDrIx, mDrLen, mDrSet, mDrPop, drL, isDr0, toS, fName, R.lift, bind_ok, bind_err, bind_bad, eAdd, eSub, eMul, eDiv, eMod, ePow, eNeg, eLt, eLe, eGt, eGe, eEqI, eNeI, eEqS, eEqB, eNeB, eIdxL, eIdxT, eBool, eAbs, Bool.false_eq_true, dList, dTup, if_true, if_false, if_pos, List.map_cons, List.map_nil, List.length_cons, List.length_nil, List.replicate, List.cons_append, List.nil_append, List.getElem?_cons_zero, List.getElem?_cons_succ, List.set_cons_zero, List.set_cons_succ, Nat.reduceAdd, Nat.reduceSub, Nat.reduceLeDiff, Nat.reduceLT, Nat.reduceMul, Int.reduceToNat, Int.reduceEq, Int.reduceAdd, Int.reduceSub, Int.reduceNeg, Bool.not_true, Bool.not_false, decide_true, decide_false, reduceIte, Nat.reduceEqDiff, ite_true, ite_false, t1, t2, t3, t4, c1, l1, at0, at1, Option.map_some]
theorem kind_axis (A : Ad) (J : A.toCa.Inj) (he : Er.AxisError ∈ A.es) (x : Int) (s : Dr) : m_law_kind A (A.c .AxisError) [("axis", .int x)] s = .ok (.tup [.str "axis", .int x]) s := by
  have t1 : A.toCa.t .OperatorError (A.c .AxisError) = some false := Ca.t_c J he _
  have t2 : A.toCa.t .FaultError (A.c .AxisError) = some false := Ca.t_c J he _
  have t3 : A.toCa.t .AxisError (A.c .AxisError) = some true := Ca.t_c J he _
  have t4 : A.toCa.tL (A.c .AxisError) = some true := Ca.tL_c J he
  have c1 : dCountB [.bl false, .bl false, .bl true] (.bl true) = some (.int 1) := rfl
  have l1 : List.lookup ("axis" : Str) [(("axis" : Str), D.int x)] = some (.int x) := by simp [List.lookup]
  simp only [m_law_kind, runX, mb_law_kind, mIsX, mCountB, mXf, mIf, dTruth, runF, mSeq, seqS, mAsg, mBin, mUn, mVar, mC, mRet, mNext, mIfS, mTest, mTruth, mAnd, mOr, mNot, mAndV, mOrV, mNotV, mCl, mCons, mNil, mCall, mDrop, mDrI, mDrNe, mDrIx, mDrLen, mDrSet, mDrPop, drL, isDr0, toS, fName, R.lift, bind_ok, bind_err, bind_bad, eAdd, eSub, eMul, eDiv, eMod, ePow, eNeg, eLt, eLe, eGt, eGe, eEqI, eNeI, eEqS, eEqB, eNeB, eIdxL, eIdxT, eBool, eAbs, Bool.false_eq_true, dList, dTup, if_true, if_false, if_pos, List.map_cons, List.map_nil, List.length_cons, List.length_nil, List.replicate, List.cons_append, List.nil_append, List.getElem?_cons_zero, List.getElem?_cons_succ, List.set_cons_zero, List.set_cons_succ, Nat.reduceAdd, Nat.reduceSub, Nat.reduceLeDiff, Nat.reduceLT, Nat.reduceMul, Int.reduceToNat, Int.reduceEq, Int.reduceAdd, Int.reduceSub, Int.reduceNeg, Bool.not_true, Bool.not_false, decide_true, decide_false, reduceIte, Nat.reduceEqDiff, ite_true, ite_false, t1, t2, t3, t4, c1, l1, at0, at1, Option.map_some]
theorem mul_b {a b : Int} (h1 : -(10 ^ 62) < a) (h2 : a < 10 ^ 62) (h3 : -(10 ^ 62) < b) (h4 : b < 10 ^ 62) : -(10 ^ 124) < a * b ∧ a * b < 10 ^ 124 := by
  have e62 : (10 : Int) ^ 62 = ((10 ^ 62 : Nat) : Int) := by decide +kernel
  have a1 : a.natAbs < 10 ^ 62 := by rw [e62] at h1 h2; omega
  have b1 : b.natAbs < 10 ^ 62 := by rw [e62] at h3 h4; omega
  have c1 : (a * b).natAbs < 10 ^ 62 * 10 ^ 62 := by
    rw [Int.natAbs_mul]
    exact Nat.mul_lt_mul'' a1 b1
  have e124 : (10 : Int) ^ 124 = ((10 ^ 62 * 10 ^ 62 : Nat) : Int) := by decide +kernel
  rw [e124]
  omega
def Op (x : Str) : Prop := x ∈ (["+", "-", "*", "//", "mod", "min", "max", "less", "equal"] : List Str)
/-- the outcome of an operator: its number, or the text of its fault -/
inductive Out | num (v : Int) | flt (x : Str)
def Out.d : Out → D
  | .num v => .int v
  | .flt x => .str x
def Out.r (A : Ad) (s : Dr) : Out → R Dr D
  | .num v => .ok (.int v) s
  | .flt x => .err (A.c .FaultError) [("reason", .str x)] s
def capped (v : Int) : Out := if 10 ^ 60 ≤ av v then .flt "overflow" else .num v
theorem capped_d (v : Int) : (capped v).d = dv v := by
  unfold capped dv
  split <;> rfl
theorem capped_b {v w : Int} (h : capped v = .num w) : -(10 ^ 60) < w ∧ w < 10 ^ 60 := by
  unfold capped at h
  split at h
  · cases h
  · rename_i z
    cases h
    unfold av at z
    split at z <;> omega
theorem apply_cap (A : Ad) {op : Str} {l r v : Int} {s : Dr} {q : Bool} (h1 : dNotIn (.str op) k_OPERATORS = some (.bl false)) (h2 : dIn (.str op) (.tup [.str "//", .str "mod"]) = some (.bl q)) (hq : q = true → r ≠ 0) (h3 : m_result_of A [.str op, .int l, .int r] s = .ok (.int v) s) :
    m_apply A [.str op, .int l, .int r] s = (capped v).r A s := by
  rw [apply_core A h1 h2 hq h3]
  unfold capped
  split <;> rfl
theorem apply_div (A : Ad) {op : Str} {l : Int} {s : Dr} (h1 : dNotIn (.str op) k_OPERATORS = some (.bl false)) (h2 : dIn (.str op) (.tup [.str "//", .str "mod"]) = some (.bl true)) :
    m_apply A [.str op, .int l, .int 0] s = Out.r A s (.flt "division") := by
  have ck : m_check_operator A [.str op, k_OPERATORS] s = .ok .non s := by
    simp only [m_check_operator, mb_check_operator, runF, mSeq, seqS, mAsg, mBin, mUn, mVar, mC, mRet, mNext, mIfS, mTest, mTruth, mAnd, mOr, mNot, mAndV, mOrV, mNotV, mCl, mCons, mNil, mCall, mDrop, mDrI, mDrNe, mDrIx, mDrLen, mDrSet, mDrPop, drL, isDr0, toS, fName, R.lift, bind_ok, bind_err, bind_bad, eAdd, eSub, eMul, eDiv, eMod, ePow, eNeg, eLt, eLe, eGt, eGe, eEqI, eNeI, eEqS, eEqB, eNeB, eIdxL, eIdxT, eBool, eAbs, Bool.false_eq_true, dList, dTup, if_true, if_false, if_pos, List.map_cons, List.map_nil, List.length_cons, List.length_nil, List.replicate, List.cons_append, List.nil_append, List.getElem?_cons_zero, List.getElem?_cons_succ, List.set_cons_zero, List.set_cons_succ, Nat.reduceAdd, Nat.reduceSub, Nat.reduceLeDiff, Nat.reduceLT, Nat.reduceMul, Int.reduceToNat, Int.reduceEq, Int.reduceAdd, Int.reduceSub, Int.reduceNeg, Bool.not_true, Bool.not_false, decide_true, decide_false, reduceIte, Nat.reduceEqDiff, ite_true, ite_false, h1]
  simp only [m_apply, mb_apply, runF, mSeq, seqS, mAsg, mBin, mUn, mVar, mC, mRet, mNext, mIfS, mTest, mTruth, mAnd, mOr, mNot, mAndV, mOrV, mNotV, mCl, mCons, mNil, mCall, mDrop, mDrI, mDrNe, mDrIx, mDrLen, mDrSet, mDrPop, drL, isDr0, toS, fName, R.lift, bind_ok, bind_err, bind_bad, eAdd, eSub, eMul, eDiv, eMod, ePow, eNeg, eLt, eLe, eGt, eGe, eEqI, eNeI, eEqS, eEqB, eNeB, eIdxL, eIdxT, eBool, eAbs, Bool.false_eq_true, dList, dTup, if_true, if_false, if_pos, List.map_cons, List.map_nil, List.length_cons, List.length_nil, List.replicate, List.cons_append, List.nil_append, List.getElem?_cons_zero, List.getElem?_cons_succ, List.set_cons_zero, List.set_cons_succ, Nat.reduceAdd, Nat.reduceSub, Nat.reduceLeDiff, Nat.reduceLT, Nat.reduceMul, Int.reduceToNat, Int.reduceEq, Int.reduceAdd, Int.reduceSub, Int.reduceNeg, Bool.not_true, Bool.not_false, decide_true, decide_false, reduceIte, Nat.reduceEqDiff, ite_true, ite_false, ck, h2]
  rfl
theorem check_none (A : Ad) {op : Str} {ks : D} {s : Dr} (h1 : dNotIn (.str op) ks = some (.bl true)) (hf : fmtD (.str op) = true) : m_check_operator A [.str op, ks] s = .err (A.c .OperatorError) [("operator", .str op)] s := by
  have c1 : (True ∧ True ∧ ([D.str op].all fmtD = true)) := ⟨trivial, trivial, by simp [hf]⟩
  simp only [m_check_operator, mb_check_operator, mRaise, runF, mSeq, seqS, mAsg, mBin, mUn, mVar, mC, mRet, mNext, mIfS, mTest, mTruth, mAnd, mOr, mNot, mAndV, mOrV, mNotV, mCl, mCons, mNil, mCall, mDrop, mDrI, mDrNe, mDrIx, mDrLen, mDrSet, mDrPop, drL, isDr0, toS, fName, R.lift, bind_ok, bind_err, bind_bad, eAdd, eSub, eMul, eDiv, eMod, ePow, eNeg, eLt, eLe, eGt, eGe, eEqI, eNeI, eEqS, eEqB, eNeB, eIdxL, eIdxT, eBool, eAbs, Bool.false_eq_true, dList, dTup, if_true, if_false, if_pos, List.map_cons, List.map_nil, List.length_cons, List.length_nil, List.replicate, List.cons_append, List.nil_append, List.getElem?_cons_zero, List.getElem?_cons_succ, List.set_cons_zero, List.set_cons_succ, Nat.reduceAdd, Nat.reduceSub, Nat.reduceLeDiff, Nat.reduceLT, Nat.reduceMul, Int.reduceToNat, Int.reduceEq, Int.reduceAdd, Int.reduceSub, Int.reduceNeg, Bool.not_true, Bool.not_false, decide_true, decide_false, reduceIte, Nat.reduceEqDiff, ite_true, ite_false, h1]
  rw [if_pos c1]
  rfl
theorem check_some (A : Ad) {op : Str} {ks : D} {s : Dr} (h1 : dNotIn (.str op) ks = some (.bl false)) : m_check_operator A [.str op, ks] s = .ok .non s := by
  simp only [m_check_operator, mb_check_operator, runF, mSeq, seqS, mAsg, mBin, mUn, mVar, mC, mRet, mNext, mIfS, mTest, mTruth, mAnd, mOr, mNot, mAndV, mOrV, mNotV, mCl, mCons, mNil, mCall, mDrop, mDrI, mDrNe, mDrIx, mDrLen, mDrSet, mDrPop, drL, isDr0, toS, fName, R.lift, bind_ok, bind_err, bind_bad, eAdd, eSub, eMul, eDiv, eMod, ePow, eNeg, eLt, eLe, eGt, eGe, eEqI, eNeI, eEqS, eEqB, eNeB, eIdxL, eIdxT, eBool, eAbs, Bool.false_eq_true, dList, dTup, if_true, if_false, if_pos, List.map_cons, List.map_nil, List.length_cons, List.length_nil, List.replicate, List.cons_append, List.nil_append, List.getElem?_cons_zero, List.getElem?_cons_succ, List.set_cons_zero, List.set_cons_succ, Nat.reduceAdd, Nat.reduceSub, Nat.reduceLeDiff, Nat.reduceLT, Nat.reduceMul, Int.reduceToNat, Int.reduceEq, Int.reduceAdd, Int.reduceSub, Int.reduceNeg, Bool.not_true, Bool.not_false, decide_true, decide_false, reduceIte, Nat.reduceEqDiff, ite_true, ite_false, h1]
theorem apply_none (A : Ad) {op : Str} {l r : Int} {s : Dr} (h1 : dNotIn (.str op) k_OPERATORS = some (.bl true)) (hf : fmtD (.str op) = true) : m_apply A [.str op, .int l, .int r] s = .err (A.c .OperatorError) [("operator", .str op)] s := by
  have ck := check_none A (s := s) h1 hf
  simp only [m_apply, mb_apply, runF, mSeq, seqS, mAsg, mBin, mUn, mVar, mC, mRet, mNext, mIfS, mTest, mTruth, mAnd, mOr, mNot, mAndV, mOrV, mNotV, mCl, mCons, mNil, mCall, mDrop, mDrI, mDrNe, mDrIx, mDrLen, mDrSet, mDrPop, drL, isDr0, toS, fName, R.lift, bind_ok, bind_err, bind_bad, eAdd, eSub, eMul, eDiv, eMod, ePow, eNeg, eLt, eLe, eGt, eGe, eEqI, eNeI, eEqS, eEqB, eNeB, eIdxL, eIdxT, eBool, eAbs, Bool.false_eq_true, dList, dTup, if_true, if_false, if_pos, List.map_cons, List.map_nil, List.length_cons, List.length_nil, List.replicate, List.cons_append, List.nil_append, List.getElem?_cons_zero, List.getElem?_cons_succ, List.set_cons_zero, List.set_cons_succ, Nat.reduceAdd, Nat.reduceSub, Nat.reduceLeDiff, Nat.reduceLT, Nat.reduceMul, Int.reduceToNat, Int.reduceEq, Int.reduceAdd, Int.reduceSub, Int.reduceNeg, Bool.not_true, Bool.not_false, decide_true, decide_false, reduceIte, Nat.reduceEqDiff, ite_true, ite_false, ck]
/-- the program's own operator and the law's agree -/
theorem op_both {op : Str} {l r : Int} (ho : Op op) (l0 : -(10 ^ 61) < l) (l1 : l < 10 ^ 61) (r0 : -(10 ^ 61) < r) (r1 : r < 10 ^ 61) :
    ∃ o : Out, (∀ w, o = .num w → -(10 ^ 60) < w ∧ w < 10 ^ 60) ∧ ∀ (A : Ad) (s : Dr), m_apply A [.str op, .int l, .int r] s = o.r A s ∧ m_law_result A [.str op, .int l, .int r] s = .ok o.d s := by
  unfold Op at ho
  simp only [List.mem_cons, List.not_mem_nil, or_false] at ho
  have mb := mul_b (a := l) (b := r) (by omega) (by omega) (by omega) (by omega)
  rcases ho with rfl | rfl | rfl | rfl | rfl | rfl | rfl | rfl | rfl
  · exact ⟨_, fun w => capped_b, fun A s => ⟨apply_cap A in_0 tw_0 (fun z => by cases z) (ro_0 A l0 l1 r0 r1), by rw [capped_d]; exact lr_0 A l0 l1 r0 r1 (by omega) (by omega)⟩⟩
  · exact ⟨_, fun w => capped_b, fun A s => ⟨apply_cap A in_1 tw_1 (fun z => by cases z) (ro_1 A l0 l1 r0 r1), by rw [capped_d]; exact lr_1 A l0 l1 r0 r1 (by omega) (by omega)⟩⟩
  · exact ⟨_, fun w => capped_b, fun A s => ⟨apply_cap A in_2 tw_2 (fun z => by cases z) (ro_2 A l0 l1 r0 r1), by rw [capped_d]; exact lr_2 A l0 l1 r0 r1 (by omega) (by omega)⟩⟩
  · by_cases hr : r = 0
    · subst hr
      exact ⟨.flt "division", fun w z => by (cases z), fun A s => ⟨apply_div A in_3 tw_3, result_div A tw_3⟩⟩
    · have f := fdiv_b l0 l1 hr
      have m2 := mul_b (a := r) (b := l.fdiv r) (by omega) (by omega) (by omega) (by omega)
      exact ⟨_, fun w => capped_b, fun A s => ⟨apply_cap A in_3 tw_3 (fun _ => hr) (ro_3 A l0 l1 r0 r1 hr), by rw [capped_d]; exact lr_3 A l0 l1 r0 r1 hr (by omega) (by omega)⟩⟩
  · by_cases hr : r = 0
    · subst hr
      exact ⟨.flt "division", fun w z => by (cases z), fun A s => ⟨apply_div A in_4 tw_4, result_div A tw_4⟩⟩
    · have f := fdiv_b l0 l1 hr
      have m2 := mul_b (a := r) (b := l.fdiv r) (by omega) (by omega) (by omega) (by omega)
      exact ⟨_, fun w => capped_b, fun A s => ⟨apply_cap A in_4 tw_4 (fun _ => hr) (ro_4 A l0 l1 r0 r1 hr), by rw [capped_d]; exact lr_4 A l0 l1 r0 r1 hr (by rw [Int.fmod_def]; omega) (by rw [Int.fmod_def]; omega)⟩⟩
  · exact ⟨_, fun w => capped_b, fun A s => ⟨apply_cap A in_5 tw_5 (fun z => by cases z) (ro_5 A l0 l1 r0 r1), by rw [capped_d]; exact lr_5 A l0 l1 r0 r1 (by split <;> omega) (by split <;> omega)⟩⟩
  · exact ⟨_, fun w => capped_b, fun A s => ⟨apply_cap A in_6 tw_6 (fun z => by cases z) (ro_6 A l0 l1 r0 r1), by rw [capped_d]; exact lr_6 A l0 l1 r0 r1 (by split <;> omega) (by split <;> omega)⟩⟩
  · exact ⟨_, fun w => capped_b, fun A s => ⟨apply_cap A in_7 tw_7 (fun z => by cases z) (ro_7 A l0 l1 r0 r1), by rw [capped_d]; exact lr_7 A l0 l1 r0 r1 (by split <;> omega) (by split <;> omega)⟩⟩
  · exact ⟨_, fun w => capped_b, fun A s => ⟨apply_cap A in_8 tw_8 (fun z => by cases z) (ro_8 A l0 l1 r0 r1), by rw [capped_d]; exact lr_8 A l0 l1 r0 r1 (by split <;> omega) (by split <;> omega)⟩⟩
end S

namespace K43
open PySem PySem.Spec PyProof.Rows L2 RZ Mr S
def topS (i : Nat) : Stmt := PySem.Challenge.pw_latecopy_k43_folds.main.body.getD i (.Pass ⟨0, 0, 0, 0⟩)
abbrev s_result_of : Stmt := topS 9
theorem sc_result_of : FnScope ["operator", "left", "right"] ["operator", "left", "right"] (defScope s_result_of) := ⟨rfl, rfl, rfl, by decide +kernel, rfl, by decide +kernel, by decide +kernel⟩
abbrev s_check_operator : Stmt := topS 10
theorem sc_check_operator : FnScope ["operator", "operators"] ["operator", "operators"] (defScope s_check_operator) := ⟨rfl, rfl, rfl, by decide +kernel, rfl, by decide +kernel, by decide +kernel⟩
abbrev s_apply : Stmt := topS 11
theorem sc_apply : FnScope ["operator", "left", "right", "result"] ["operator", "left", "right"] (defScope s_apply) := ⟨rfl, rfl, rfl, by decide +kernel, rfl, by decide +kernel, by decide +kernel⟩
abbrev s_fold : Stmt := topS 12
theorem sc_fold : FnScope ["operator", "numbers", "result", "number"] ["operator", "numbers"] (defScope s_fold) := ⟨rfl, rfl, rfl, by decide +kernel, rfl, by decide +kernel, by decide +kernel⟩
abbrev s_law_draws : Stmt := topS 14
theorem sc_law_draws : FnScope ["_law_script", "_law_cell"] ["_law_script"] (defScope s_law_draws) := ⟨rfl, rfl, rfl, by decide +kernel, rfl, by decide +kernel, by decide +kernel⟩
abbrev s_law_mixed : Stmt := topS 15
theorem sc_law_mixed : FnScope ["_law_seed", "_law_k", "_law_first"] ["_law_seed", "_law_k"] (defScope s_law_mixed) := ⟨rfl, rfl, rfl, by decide +kernel, rfl, by decide +kernel, by decide +kernel⟩
abbrev s_law_take : Stmt := topS 16
theorem sc_law_take : FnScope ["_law_draws_here", "_law_size", "_law_found", "_law_seed", "_law_reach"] ["_law_draws_here", "_law_size"] (defScope s_law_take) := ⟨rfl, rfl, rfl, by decide +kernel, rfl, by decide +kernel, by decide +kernel⟩
abbrev s_law_number : Stmt := topS 17
theorem sc_law_number : FnScope ["_law_draws_here", "_law_way", "_law_great_here"] ["_law_draws_here"] (defScope s_law_number) := ⟨rfl, rfl, rfl, by decide +kernel, rfl, by decide +kernel, by decide +kernel⟩
abbrev s_law_great : Stmt := topS 18
theorem sc_law_great : FnScope ["_law_draws_here", "_law_way", "_law_some"] ["_law_draws_here"] (defScope s_law_great) := ⟨rfl, rfl, rfl, by decide +kernel, rfl, by decide +kernel, by decide +kernel⟩
abbrev s_law_same : Stmt := topS 19
theorem sc_law_same : FnScope ["_law_found", "_law_due", "_law_one", "_law_two"] ["_law_found", "_law_due"] (defScope s_law_same) := ⟨rfl, rfl, rfl, by decide +kernel, rfl, by decide +kernel, by decide +kernel⟩
abbrev s_law_result : Stmt := topS 20
theorem sc_law_result : FnScope ["_law_operator", "_law_left", "_law_right", "_law_found"] ["_law_operator", "_law_left", "_law_right"] (defScope s_law_result) := ⟨rfl, rfl, rfl, by decide +kernel, rfl, by decide +kernel, by decide +kernel⟩
abbrev s_law_kind : Stmt := topS 21
theorem sc_law_kind : FnScope ["_law_e", "_law_some"] ["_law_e"] (defScope s_law_kind) := ⟨rfl, rfl, rfl, by decide +kernel, rfl, by decide +kernel, by decide +kernel⟩
abbrev s_law_folded : Stmt := topS 22
theorem sc_law_folded : FnScope ["_law_operator", "_law_numbers", "_law_found", "_law_number_here"] ["_law_operator", "_law_numbers"] (defScope s_law_folded) := ⟨rfl, rfl, rfl, by decide +kernel, rfl, by decide +kernel, by decide +kernel⟩
abbrev s_law_sixty : Stmt := topS 23
theorem sc_law_sixty : FnScope ["_law_draws_here"] ["_law_draws_here"] (defScope s_law_sixty) := ⟨rfl, rfl, rfl, by decide +kernel, rfl, by decide +kernel, by decide +kernel⟩
abbrev s_law_done : Stmt := topS 24
theorem sc_law_done : FnScope ["_law_operator", "_law_numbers", "_law_found", "_law_e"] ["_law_operator", "_law_numbers"] (defScope s_law_done) := ⟨rfl, rfl, rfl, by decide +kernel, rfl, by decide +kernel, by decide +kernel⟩
abbrev s_law : Stmt := topS 25
theorem sc_law : FnScope ["_law_script", "_law_draws_here", "_law_turn", "_law_some", "_law_operator", "_law_numbers", "_law_due", "_law_found", "_law_kept", "_law_k"] ["_law_script"] (defScope s_law) := ⟨rfl, rfl, rfl, by decide +kernel, rfl, by decide +kernel, by decide +kernel⟩
abbrev s_iAxisError : Stmt := inClass (topS 2) 0
theorem sc_iAxisError : FnScope ["self", "axis"] ["self", "axis"] (defScope s_iAxisError) := ⟨rfl, rfl, rfl, by decide +kernel, rfl, by decide +kernel, by decide +kernel⟩
abbrev s_iOperatorError : Stmt := inClass (topS 3) 0
theorem sc_iOperatorError : FnScope ["self", "operator"] ["self", "operator"] (defScope s_iOperatorError) := ⟨rfl, rfl, rfl, by decide +kernel, rfl, by decide +kernel, by decide +kernel⟩
abbrev s_iFaultError : Stmt := inClass (topS 4) 0
theorem sc_iFaultError : FnScope ["self", "reason"] ["self", "reason"] (defScope s_iFaultError) := ⟨rfl, rfl, rfl, by decide +kernel, rfl, by decide +kernel, by decide +kernel⟩
def bd_law_folded_0 (A : Ad) : MS (O A) :=
  (mIfS (O A) (mTruth (O A) (mCl (O A) dIsI (mCons (O A) (mVar (O A) 2) (mCons (O A) (mC (O A) (.ty "int")) (mNil (O A))))))
  (mAsg (O A) (mCall (O A) 3 (m_law_result A) (mCons (O A) (mVar (O A) 0) (mCons (O A) (mVar (O A) 2) (mCons (O A) (mVar (O A) 3) (mNil (O A)))))) (fName 2))
  (mNext (O A)))
def mb_law_folded (A : Ad) : MS (O A) :=
  (mSeq (O A) (mAsg (O A) (mBin (O A) dIdx (mVar (O A) 1) (mC (O A) (.int 0))) (fName 2))
  (mSeq (O A) (mFor (O A) (mItS (O A) (mSlice (O A) (mVar (O A) 1) (mPart (O A) (mC (O A) (.int 1))) (mNoPart (O A)))) (fName 3)
  (bd_law_folded_0 A))
  (mRet (O A) (mVar (O A) 2))))
def m_law_folded (A : Ad) : List D → Dr → R Dr D := runF (O A) 4 (mb_law_folded A)
def mb_law_sixty (A : Ad) : MS (O A) :=
  (mRet (O A) (mCall (O A) 3 (m_apply A) (mCons (O A) (mC (O A) (.str "*")) (mCons (O A) (mBin (O A) dMul (mBin (O A) dIdx (mCl (O A) dList (mCons (O A) (mC (O A) (.int 6)) (mCons (O A) (mUn (O A) dNeg (mC (O A) (.int 6))) (mNil (O A))))) (mCall (O A) 2 (m_law_take A) (mCons (O A) (mVar (O A) 0) (mCons (O A) (mC (O A) (.int 2)) (mNil (O A)))))) (mBin (O A) dPow (mC (O A) (.int 10)) (mC (O A) (.int 29)))) (mCons (O A) (mBin (O A) dPow (mC (O A) (.int 10)) (mC (O A) (.int 30))) (mNil (O A)))))))
def m_law_sixty (A : Ad) : List D → Dr → R Dr D := runF (O A) 1 (mb_law_sixty A)
def mb_law_done (A : Ad) : MS (O A) :=
  (mSeq (O A) (mAsg (O A) (mCl (O A) dTup (mCons (O A) (mC (O A) (.str "odd")) (mNil (O A)))) (fName 2))
  (mSeq (O A) (mTryAs (O A) A.tL 3
  (mAsg (O A) (mCl (O A) dTup (mCons (O A) (mC (O A) (.str "result")) (mCons (O A) (mCall (O A) 2 (m_fold A) (mCons (O A) (mVar (O A) 0) (mCons (O A) (mVar (O A) 1) (mNil (O A))))) (mNil (O A))))) (fName 2))
  (mAsg (O A) (mCallX (O A) 3 (m_law_kind A)) (fName 2)))
  (mRet (O A) (mVar (O A) 2))))
def m_law_done (A : Ad) : List D → Dr → R Dr D := runF (O A) 4 (mb_law_done A)
def lc_law_0 (A : Ad) : MA (O A) :=
  (mLc (O A) (mRng1 (O A) (mCons (O A) (mBin (O A) dAdd (mC (O A) (.int 1)) (mCall (O A) 2 (m_law_take A) (mCons (O A) (mVar (O A) 1) (mCons (O A) (mBin (O A) dIdx (mCl (O A) dList (mCons (O A) (mC (O A) (.int 2)) (mCons (O A) (mC (O A) (.int 5)) (mCons (O A) (mC (O A) (.int 12)) (mNil (O A)))))) (mCall (O A) 2 (m_law_take A) (mCons (O A) (mVar (O A) 1) (mCons (O A) (mC (O A) (.int 3)) (mNil (O A)))))) (mNil (O A)))))) (mNil (O A)))) (fName 9) (mYes (O A)) (mCall (O A) 1 (m_law_great A) (mCons (O A) (mVar (O A) 1) (mNil (O A)))) [9])
def lc_law_1 (A : Ad) : MA (O A) :=
  (mLc (O A) (mRng1 (O A) (mCons (O A) (mCl (O A) dLen (mCons (O A) (mVar (O A) 5) (mNil (O A)))) (mNil (O A)))) (fName 9) (mYes (O A)) (mBin (O A) dSub (mCall (O A) 2 (m_law_take A) (mCons (O A) (mVar (O A) 1) (mCons (O A) (mC (O A) (.int 5)) (mNil (O A))))) (mC (O A) (.int 2))) [9])
def lc_law_2 (A : Ad) : MA (O A) :=
  (mLc (O A) (mRng1 (O A) (mCons (O A) (mC (O A) (.int 400)) (mNil (O A)))) (fName 9) (mYes (O A)) (mBin (O A) dSub (mCall (O A) 2 (m_law_take A) (mCons (O A) (mVar (O A) 1) (mCons (O A) (mC (O A) (.int 7)) (mNil (O A))))) (mC (O A) (.int 2))) [9])
def bd_law_3 (A : Ad) : MS (O A) :=
  (mSeq (O A) (mAsg (O A) (mCl (O A) dList (mCons (O A) (mC (O A) (.str "+")) (mCons (O A) (mC (O A) (.str "*")) (mCons (O A) (mC (O A) (.str "min")) (mCons (O A) (mC (O A) (.str "max")) (mCons (O A) (mC (O A) (.str "+")) (mCons (O A) (mC (O A) (.str "*")) (mCons (O A) (mC (O A) (.str "-")) (mCons (O A) (mC (O A) (.str "//")) (mCons (O A) (mC (O A) (.str "mod")) (mCons (O A) (mC (O A) (.str "less")) (mCons (O A) (mC (O A) (.str "equal")) (mCons (O A) (mC (O A) (.str "")) (mCons (O A) (mC (O A) (.str "sum")) (mNil (O A)))))))))))))))) (fName 3))
  (mSeq (O A) (mAsg (O A) (mBin (O A) dIdx (mVar (O A) 3) (mCall (O A) 2 (m_law_take A) (mCons (O A) (mVar (O A) 1) (mCons (O A) (mC (O A) (.int 13)) (mNil (O A)))))) (fName 4))
  (mSeq (O A) (mAsg (O A) (mLst (O A) (lc_law_0 A)) (fName 5))
  (mSeq (O A) (mIfS (O A) (mAnd (O A) (mTest (O A) (mBin (O A) dEq (mVar (O A) 4) (mC (O A) (.str "*")))) (mTest (O A) (mBin (O A) dEq (mCall (O A) 2 (m_law_take A) (mCons (O A) (mVar (O A) 1) (mCons (O A) (mC (O A) (.int 3)) (mNil (O A))))) (mC (O A) (.int 0)))))
  (mAsg (O A) (mLst (O A) (lc_law_1 A)) (fName 5))
  (mNext (O A)))
  (mSeq (O A) (mIfS (O A) (mTest (O A) (mBin (O A) dEq (mCall (O A) 2 (m_law_take A) (mCons (O A) (mVar (O A) 1) (mCons (O A) (mC (O A) (.int 3)) (mNil (O A))))) (mC (O A) (.int 0))))
  (mAsg (O A) (mBin (O A) dAdd (mSlice (O A) (mVar (O A) 5) (mNoPart (O A)) (mPart (O A) (mC (O A) (.int 2)))) (mCl (O A) dList (mCons (O A) (mCall (O A) 1 (m_law_sixty A) (mCons (O A) (mVar (O A) 1) (mNil (O A)))) (mCons (O A) (mCall (O A) 1 (m_law_sixty A) (mCons (O A) (mVar (O A) 1) (mNil (O A)))) (mNil (O A)))))) (fName 5))
  (mNext (O A)))
  (mSeq (O A) (mIfS (O A) (mTest (O A) (mBin (O A) dEq (mCall (O A) 2 (m_law_take A) (mCons (O A) (mVar (O A) 1) (mCons (O A) (mC (O A) (.int 16)) (mNil (O A))))) (mC (O A) (.int 0))))
  (mAsg (O A) (mLst (O A) (lc_law_2 A)) (fName 5))
  (mNext (O A)))
  (mSeq (O A) (mAsg (O A) (mCl (O A) dTup (mCons (O A) (mC (O A) (.str "operator")) (mCons (O A) (mVar (O A) 4) (mNil (O A))))) (fName 6))
  (mSeq (O A) (mIfS (O A) (mTest (O A) (mBin (O A) dIn (mVar (O A) 4) (mCl (O A) dTup (mCons (O A) (mC (O A) (.str "+")) (mCons (O A) (mC (O A) (.str "*")) (mCons (O A) (mC (O A) (.str "min")) (mCons (O A) (mC (O A) (.str "max")) (mNil (O A)))))))))
  (mSeq (O A) (mAsg (O A) (mCall (O A) 2 (m_law_folded A) (mCons (O A) (mVar (O A) 4) (mCons (O A) (mVar (O A) 5) (mNil (O A))))) (fName 7))
  (mAsg (O A) (mIf (O A) (mTruth (O A) (mCl (O A) dIsI (mCons (O A) (mVar (O A) 7) (mCons (O A) (mC (O A) (.ty "int")) (mNil (O A)))))) (mCl (O A) dTup (mCons (O A) (mC (O A) (.str "result")) (mCons (O A) (mVar (O A) 7) (mNil (O A))))) (mCl (O A) dTup (mCons (O A) (mC (O A) (.str "fault")) (mCons (O A) (mVar (O A) 7) (mNil (O A)))))) (fName 6)))
  (mNext (O A)))
  (mSeq (O A) (mAsg (O A) (mCl (O A) dListOf (mCons (O A) (mVar (O A) 5) (mNil (O A)))) (fName 8))
  (mSeq (O A) (mIfS (O A) (mOr (O A) (mNot (O A) (mTruth (O A) (mCall (O A) 2 (m_law_same A) (mCons (O A) (mCall (O A) 2 (m_law_done A) (mCons (O A) (mVar (O A) 4) (mCons (O A) (mVar (O A) 5) (mNil (O A))))) (mCons (O A) (mVar (O A) 6) (mNil (O A))))))) (mTest (O A) (mBin (O A) dNe (mVar (O A) 5) (mVar (O A) 8))))
  (mRet (O A) (mC (O A) (.bl false)))
  (mNext (O A)))
  (mIfS (O A) (mNot (O A) (mTruth (O A) (mCall (O A) 2 (m_law_same A) (mCons (O A) (mCall (O A) 2 (m_law_done A) (mCons (O A) (mVar (O A) 4) (mCons (O A) (mCl (O A) dTupOf (mCons (O A) (mVar (O A) 5) (mNil (O A)))) (mNil (O A))))) (mCons (O A) (mVar (O A) 6) (mNil (O A)))))))
  (mRet (O A) (mC (O A) (.bl false)))
  (mNext (O A)))))))))))))
def mb_law (A : Ad) : MS (O A) :=
  (mSeq (O A) (mFor (O A) (mRng1 (O A) (mCons (O A) (mC (O A) (.int 6)) (mNil (O A)))) (fName 2)
  (bd_law_3 A))
  (mRet (O A) (mC (O A) (.bl true))))
/-! ### what the top has left -/
structure Txt (P : Program) (w : World) (K : PySem.W.Frag) (mg : Str → Option Value) (base : Heap) (A : Ca) : Prop where
  f_result_of : ∃ f fd, Fun K "result_of" "result_of" s_result_of f fd ∧ mg "result_of" = some (.ref f)
  f_check_operator : ∃ f fd, Fun K "check_operator" "check_operator" s_check_operator f fd ∧ mg "check_operator" = some (.ref f)
  f_apply : ∃ f fd, Fun K "apply" "apply" s_apply f fd ∧ mg "apply" = some (.ref f)
  f_fold : ∃ f fd, Fun K "fold" "fold" s_fold f fd ∧ mg "fold" = some (.ref f)
  f_law_draws : ∃ f fd, Fun K "_law_draws" "_law_draws" s_law_draws f fd ∧ mg "_law_draws" = some (.ref f)
  f_law_mixed : ∃ f fd, Fun K "_law_mixed" "_law_mixed" s_law_mixed f fd ∧ mg "_law_mixed" = some (.ref f)
  f_law_take : ∃ f fd, Fun K "_law_take" "_law_take" s_law_take f fd ∧ mg "_law_take" = some (.ref f)
  f_law_number : ∃ f fd, Fun K "_law_number" "_law_number" s_law_number f fd ∧ mg "_law_number" = some (.ref f)
  f_law_great : ∃ f fd, Fun K "_law_great" "_law_great" s_law_great f fd ∧ mg "_law_great" = some (.ref f)
  f_law_same : ∃ f fd, Fun K "_law_same" "_law_same" s_law_same f fd ∧ mg "_law_same" = some (.ref f)
  f_law_result : ∃ f fd, Fun K "_law_result" "_law_result" s_law_result f fd ∧ mg "_law_result" = some (.ref f)
  f_law_kind : ∃ f fd, Fun K "_law_kind" "_law_kind" s_law_kind f fd ∧ mg "_law_kind" = some (.ref f)
  f_law_folded : ∃ f fd, Fun K "_law_folded" "_law_folded" s_law_folded f fd ∧ mg "_law_folded" = some (.ref f)
  f_law_sixty : ∃ f fd, Fun K "_law_sixty" "_law_sixty" s_law_sixty f fd ∧ mg "_law_sixty" = some (.ref f)
  f_law_done : ∃ f fd, Fun K "_law_done" "_law_done" s_law_done f fd ∧ mg "_law_done" = some (.ref f)
  f_law : ∃ f fd, Fun K "law" "law" s_law f fd ∧ mg "law" = some (.ref f)
  b_ValueError : mg "ValueError" = none
  b_abs : mg "abs" = none
  b_all : mg "all" = none
  b_bool : mg "bool" = none
  b_int : mg "int" = none
  b_isinstance : mg "isinstance" = none
  b_len : mg "len" = none
  b_list : mg "list" = none
  b_max : mg "max" = none
  b_min : mg "min" = none
  b_range : mg "range" = none
  b_str : mg "str" = none
  b_tuple : mg "tuple" = none
  b_zip : mg "zip" = none
  e_AxisError : ErT P w K mg base "AxisError" (A.c .AxisError) ["axis"]
  e_OperatorError : ErT P w K mg base "OperatorError" (A.c .OperatorError) ["operator"]
  e_FaultError : ErT P w K mg base "FaultError" (A.c .FaultError) ["reason"]
  x_LateCopyError : ∀ c b, A.tL c = some b → PySem.W.exmOne K (.ref c) (.ref A.L) = some b
  es : A.es = [.AxisError, .OperatorError, .FaultError]
  inj : A.Inj
  gc_LateCopyError : mg "LateCopyError" = some (.ref A.L)
  gc_AxisError : mg "AxisError" = some (.ref (A.c .AxisError))
  is_AxisError : ∀ c b, (A.t .AxisError) c = some b → IsC K c ∧ PySem.W.kitOne K (.ref c) (.ref (A.c .AxisError)) = some b
  gc_FaultError : mg "FaultError" = some (.ref (A.c .FaultError))
  is_FaultError : ∀ c b, (A.t .FaultError) c = some b → IsC K c ∧ PySem.W.kitOne K (.ref c) (.ref (A.c .FaultError)) = some b
  is_LateCopyError : ∀ c b, A.tL c = some b → IsC K c ∧ PySem.W.kitOne K (.ref c) (.ref A.L) = some b
  gc_OperatorError : mg "OperatorError" = some (.ref (A.c .OperatorError))
  is_OperatorError : ∀ c b, (A.t .OperatorError) c = some b → IsC K c ∧ PySem.W.kitOne K (.ref c) (.ref (A.c .OperatorError)) = some b
  is_ValueError : ∀ c b, A.tL c = some b → IsC K c ∧ PySem.W.kitOne K (.ref c) (.type "ValueError") = some b
  g_OPERATORS : ∃ v, GC K mg "OPERATORS" v k_OPERATORS
  g_FOLDS : ∃ v, GC K mg "FOLDS" v k_FOLDS
  g_LIMIT : ∃ v, GC K mg "LIMIT" v k_LIMIT
section
variable {P : Program} {w : World} {K : PySem.W.Frag} {mg : Str → Option Value} {base : Heap} {A : Ad}
/-! result_of -/
theorem fo_result_of (T : Txt P w K mg base A.toCa) : Fo P w K mg base (O A) 1 "result_of" 3 (m_result_of A) := by
  obtain ⟨f, fd, F, hg⟩ := T.f_result_of
  refine fo_mk (N := ["operator", "left", "right"]) F sc_result_of hg (F.binds (ps := ["operator", "left", "right"]) fun _ _ _ _ _ _ us hl => match us, hl with | [_, _, _], _ => rfl) (fun cdv Ar outer s H E hr c => ?_)
  exact ⟨_, ((db_cons (ds_if (dt_eq hr (de_var 0 c.cn) (de_str c.cn))
  (db_one (ds_ret (de_add (de_var 1 c.cn) (de_var 2 c.cn))))
  db_nil)
  (db_cons (ds_if (dt_eq hr (de_var 0 c.cn) (de_str c.cn))
  (db_one (ds_ret (de_sub (de_var 1 c.cn) (de_var 2 c.cn))))
  db_nil)
  (db_cons (ds_if (dt_eq hr (de_var 0 c.cn) (de_str c.cn))
  (db_one (ds_ret (de_mul (de_var 1 c.cn) (de_var 2 c.cn))))
  db_nil)
  (db_cons (ds_if (dt_eq hr (de_var 0 c.cn) (de_str c.cn))
  (db_one (ds_ret (de_div (de_var 1 c.cn) (de_var 2 c.cn))))
  db_nil)
  (db_cons (ds_if (dt_eq hr (de_var 0 c.cn) (de_str c.cn))
  (db_one (ds_ret (de_mod (de_var 1 c.cn) (de_var 2 c.cn))))
  db_nil)
  (db_cons (ds_if (dt_eq hr (de_var 0 c.cn) (de_str c.cn))
  (db_one (ds_ret (de_callB (f := dMin2) (call_min2 c.hc) vcl_i2 T.b_min (by decide +kernel) (da_cons (de_var 1 c.cn) (da_cons (de_var 2 c.cn) (da_nil c.cn))))))
  db_nil)
  (db_cons (ds_if (dt_eq hr (de_var 0 c.cn) (de_str c.cn))
  (db_one (ds_ret (de_callB (f := dMax2) (call_max2 c.hc) vcl_i2 T.b_max (by decide +kernel) (da_cons (de_var 1 c.cn) (da_cons (de_var 2 c.cn) (da_nil c.cn))))))
  db_nil)
  (db_cons (ds_if (dt_eq hr (de_var 0 c.cn) (de_str c.cn))
  (db_one (ds_ret (de_callT (f := dIntC) (call_int1) vcl_int T.b_int (by decide +kernel) (da_cons (de_lt (de_var 1 c.cn) (de_var 2 c.cn)) (da_nil c.cn)))))
  db_nil)
  (db_one (ds_ret (de_callT (f := dIntC) (call_int1) vcl_int T.b_int (by decide +kernel) (da_cons (de_eq hr (de_var 1 c.cn) (de_var 2 c.cn)) (da_nil c.cn))))))))))))))⟩
/-! check_operator -/
theorem fo_check_operator (T : Txt P w K mg base A.toCa) : Fo P w K mg base (O A) 3 "check_operator" 2 (m_check_operator A) := by
  obtain ⟨f, fd, F, hg⟩ := T.f_check_operator
  refine fo_mk (N := ["operator", "operators"]) F sc_check_operator hg (F.binds (ps := ["operator", "operators"]) fun _ _ _ _ _ _ us hl => match us, hl with | [_, _], _ => rfl) (fun cdv Ar outer s H E hr c => ?_)
  exact ⟨_, ((db_one (ds_if (dt_notIn (de_var 0 c.cn) (de_var 1 c.cn))
  (db_one (ds_raise c T.e_OperatorError hr (by decide) (da_cons (de_var 0 c.cn) (da_nil c.cn))))
  db_nil)))⟩
/-! apply -/
theorem fo_apply (T : Txt P w K mg base A.toCa) : Fo P w K mg base (O A) 4 "apply" 3 (m_apply A) := by
  have F_check_operator := fo_check_operator (A := A) T
  have F_result_of := fo_result_of (A := A) T
  obtain ⟨f, fd, F, hg⟩ := T.f_apply
  refine fo_mk (N := ["operator", "left", "right", "result"]) F sc_apply hg (F.binds (ps := ["operator", "left", "right"]) fun _ _ _ _ _ _ us hl => match us, hl with | [_, _, _], _ => rfl) (fun cdv Ar outer s H E hr c => ?_)
  exact ⟨_, ((db_cons (ds_expr (de_call F_check_operator hr (by decide) (da_cons (de_var 0 c.cn) (da_cons (T.g_OPERATORS.choose_spec.de c.cn) (da_nil c.cn)))))
  (db_cons (ds_if (DW.dt (dw_and (dt_in (de_var 0 c.cn) (de_tup (da_cons (de_str c.cn) (da_cons (de_str c.cn) (da_nil c.cn))))) (dw_and1 (dt_eq hr (de_var 2 c.cn) (de_int c.cn)))))
  (db_one (ds_raise c T.e_FaultError hr (by decide) (da_cons (de_str c.cn) (da_nil c.cn))))
  db_nil)
  (db_cons (ds_set 3 c.nd (de_call F_result_of hr (by decide) (da_cons (de_var 0 c.cn) (da_cons (de_var 1 c.cn) (da_cons (de_var 2 c.cn) (da_nil c.cn))))))
  (db_cons (ds_if (dt_ge (de_callB (f := dAbs) (call_abs) vcl_abs T.b_abs (by decide +kernel) (da_cons (de_var 3 c.cn) (da_nil c.cn))) (T.g_LIMIT.choose_spec.de c.cn))
  (db_one (ds_raise c T.e_FaultError hr (by decide) (da_cons (de_str c.cn) (da_nil c.cn))))
  db_nil)
  (db_one (ds_ret (de_var 3 c.cn))))))))⟩
/-! fold -/
theorem fo_fold (T : Txt P w K mg base A.toCa) : Fo P w K mg base (O A) 5 "fold" 2 (m_fold A) := by
  have F_apply := fo_apply (A := A) T
  have F_check_operator := fo_check_operator (A := A) T
  obtain ⟨f, fd, F, hg⟩ := T.f_fold
  refine fo_mk (N := ["operator", "numbers", "result", "number"]) F sc_fold hg (F.binds (ps := ["operator", "numbers"]) fun _ _ _ _ _ _ us hl => match us, hl with | [_, _], _ => rfl) (fun cdv Ar outer s H E hr c => ?_)
  exact ⟨_, ((db_cons (ds_expr (de_call F_check_operator hr (by decide) (da_cons (de_var 0 c.cn) (da_cons (T.g_FOLDS.choose_spec.de c.cn) (da_nil c.cn)))))
  (db_cons (ds_set 2 c.nd (de_idx (de_var 1 c.cn) (de_int c.cn)))
  (db_cons (ds_for c (di_seq (de_slice (de_var 1 c.cn) (do_some (de_int c.cn)) (do_none c.cn))) (dg_name 3 c.nd)
  (db_one (ds_set 2 c.nd (de_call F_apply hr (by decide) (da_cons (de_var 0 c.cn) (da_cons (de_var 2 c.cn) (da_cons (de_var 3 c.cn) (da_nil c.cn))))))))
  (db_one (ds_ret (de_var 2 c.cn)))))))⟩
/-! law_mixed -/
theorem fo_law_mixed (T : Txt P w K mg base A.toCa) : Fo P w K mg base (O A) 1 "_law_mixed" 2 (m_law_mixed A) := by
  obtain ⟨f, fd, F, hg⟩ := T.f_law_mixed
  refine fo_mk (N := ["_law_seed", "_law_k", "_law_first"]) F sc_law_mixed hg (F.binds (ps := ["_law_seed", "_law_k"]) fun _ _ _ _ _ _ us hl => match us, hl with | [_, _], _ => rfl) (fun cdv Ar outer s H E hr c => ?_)
  exact ⟨_, ((db_cons (ds_set 2 c.nd (de_mod (de_pow (de_add (de_add (de_mod (de_var 0 c.cn) (de_int c.cn)) (de_mul (de_int c.cn) (de_var 1 c.cn))) (de_int c.cn)) (de_int c.cn)) (de_int c.cn)))
  (db_one (ds_ret (de_mod (de_pow (de_add (de_add (de_mul (de_var 2 c.cn) (de_int c.cn)) (de_mul (de_mul (de_int c.cn) (de_var 1 c.cn)) (de_var 1 c.cn))) (de_int c.cn)) (de_int c.cn)) (de_int c.cn))))))⟩
/-! law_take -/
theorem fo_law_take (T : Txt P w K mg base A.toCa) : Fo P w K mg base (O A) 2 "_law_take" 2 (m_law_take A) := by
  have F_law_mixed := fo_law_mixed (A := A) T
  obtain ⟨f, fd, F, hg⟩ := T.f_law_take
  refine fo_mk (N := ["_law_draws_here", "_law_size", "_law_found", "_law_seed", "_law_reach"]) F sc_law_take hg (F.binds (ps := ["_law_draws_here", "_law_size"]) fun _ _ _ _ _ _ us hl => match us, hl with | [_, _], _ => rfl) (fun cdv Ar outer s H E hr c => ?_)
  exact ⟨_, (db_cons (ds_drSet 0 (de_add (de_drI 0 c.cn) (de_int c.cn)))
  (db_cons (ds_if (DW.dt (dw_and (dt_eq hr (de_drI 0 c.cn) (de_int c.cn)) (dw_and1 (dt_drNe 0 c.cn hr)))) (db_one (ds_drPop 0 c.cn)) db_nil)
  (db_cons (ds_if (dt_gt (de_drI 0 c.cn) (de_int c.cn))
    (db_cons (ds_set 2 c.nd (de_mod (de_drI 0 c.cn) (de_var 1 c.cn)))
    (db_cons (ds_drSet 0 (de_div (de_drI 0 c.cn) (de_var 1 c.cn))) (db_one (ds_ret (de_var 2 c.cn))))) db_nil)
  (db_cons (ds_set 3 c.nd (de_int c.cn))
  (db_cons (ds_if (dt_drNe 0 c.cn hr) (db_one (ds_set 3 c.nd (de_drIx 0 (de_mod (de_drI 0 c.cn) (de_drLen 0 c.cn T.b_len)) take_hw))) db_nil)
  (db_cons (ds_set 2 c.nd (de_int c.cn))
  (db_cons (ds_set 4 c.nd (de_int c.cn))
  (db_cons (ds_while (fun _ _ => 100) c (dt_lt (de_var 4 c.cn) (de_var 1 c.cn))
    (db_cons (ds_set 2 c.nd (de_add (de_mul (de_var 2 c.cn) (de_int c.cn)) (de_call F_law_mixed hr (by decide) (da_cons (de_var 3 c.cn) (da_cons (de_add (de_drI 0 c.cn) (de_mul (de_int c.cn) (de_mod (de_var 2 c.cn) (de_int c.cn)))) (da_nil c.cn))))))
    (db_one (ds_set 4 c.nd (de_mul (de_var 4 c.cn) (de_int c.cn))))))
  (db_one (ds_ret (de_mod (de_var 2 c.cn) (de_var 1 c.cn))))))))))))⟩
/-! law_number -/
theorem fo_law_number (T : Txt P w K mg base A.toCa) : Fo P w K mg base (O A) 3 "_law_number" 1 (m_law_number A) := by
  have F_law_take := fo_law_take (A := A) T
  obtain ⟨f, fd, F, hg⟩ := T.f_law_number
  refine fo_mk (N := ["_law_draws_here", "_law_way", "_law_great_here"]) F sc_law_number hg (F.binds (ps := ["_law_draws_here"]) fun _ _ _ _ _ _ us hl => match us, hl with | [_], _ => rfl) (fun cdv Ar outer s H E hr c => ?_)
  exact ⟨_, ((db_cons (ds_set 1 c.nd (de_call F_law_take hr (by decide) (da_cons (de_var 0 c.cn) (da_cons (de_int c.cn) (da_nil c.cn)))))
  (db_cons (ds_if (dt_lt (de_var 1 c.cn) (de_int c.cn))
  (db_one (ds_ret (de_sub (de_call F_law_take hr (by decide) (da_cons (de_var 0 c.cn) (da_cons (de_int c.cn) (da_nil c.cn)))) (de_int c.cn))))
  db_nil)
  (db_cons (ds_set 2 c.nd (de_call F_law_take hr (by decide) (da_cons (de_var 0 c.cn) (da_cons (de_idx (de_list (da_cons (de_pow (de_int c.cn) (de_int c.cn)) (da_cons (de_pow (de_int c.cn) (de_int c.cn)) (da_nil c.cn)))) (de_sub (de_var 1 c.cn) (de_int c.cn))) (da_nil c.cn)))))
  (db_one (ds_ret (de_idx (de_list (da_cons (de_var 2 c.cn) (da_cons (de_sub (de_int c.cn) (de_var 2 c.cn)) (da_nil c.cn)))) (de_call F_law_take hr (by decide) (da_cons (de_var 0 c.cn) (da_cons (de_int c.cn) (da_nil c.cn)))))))))))⟩
/-! law_great -/
theorem fo_law_great (T : Txt P w K mg base A.toCa) : Fo P w K mg base (O A) 4 "_law_great" 1 (m_law_great A) := by
  have F_law_number := fo_law_number (A := A) T
  have F_law_take := fo_law_take (A := A) T
  obtain ⟨f, fd, F, hg⟩ := T.f_law_great
  refine fo_mk (N := ["_law_draws_here", "_law_way", "_law_some"]) F sc_law_great hg (F.binds (ps := ["_law_draws_here"]) fun _ _ _ _ _ _ us hl => match us, hl with | [_], _ => rfl) (fun cdv Ar outer s H E hr c => ?_)
  exact ⟨_, ((db_cons (ds_set 1 c.nd (de_call F_law_take hr (by decide) (da_cons (de_var 0 c.cn) (da_cons (de_int c.cn) (da_nil c.cn)))))
  (db_cons (ds_set 2 c.nd (de_list (da_cons (de_sub (de_pow (de_int c.cn) (de_int c.cn)) (de_int c.cn)) (da_cons (de_sub (de_int c.cn) (de_pow (de_int c.cn) (de_int c.cn))) (da_cons (de_pow (de_int c.cn) (de_int c.cn)) (da_cons (de_sub (de_int c.cn) (de_pow (de_int c.cn) (de_int c.cn))) (da_cons (de_sub (de_pow (de_int c.cn) (de_int c.cn)) (de_int c.cn)) (da_cons (de_add (de_pow (de_int c.cn) (de_int c.cn)) (de_int c.cn)) (da_cons (de_pow (de_int c.cn) (de_int c.cn)) (da_cons (de_int c.cn) (da_nil c.cn)))))))))))
  (db_cons (ds_if (dt_lt (de_var 1 c.cn) (de_int c.cn))
  (db_one (ds_ret (de_call F_law_number hr (by decide) (da_cons (de_var 0 c.cn) (da_nil c.cn)))))
  db_nil)
  (db_cons (ds_if (dt_lt (de_var 1 c.cn) (de_int c.cn))
  (db_one (ds_ret (de_idx (de_var 2 c.cn) (de_call F_law_take hr (by decide) (da_cons (de_var 0 c.cn) (da_cons (de_int c.cn) (da_nil c.cn)))))))
  db_nil)
  (db_one (ds_ret (de_mul (de_idx (de_list (da_cons (de_int c.cn) (da_cons (de_neg (de_int c.cn)) (da_nil c.cn)))) (de_call F_law_take hr (by decide) (da_cons (de_var 0 c.cn) (da_cons (de_int c.cn) (da_nil c.cn))))) (de_call F_law_take hr (by decide) (da_cons (de_var 0 c.cn) (da_cons (de_idx (de_list (da_cons (de_pow (de_int c.cn) (de_int c.cn)) (da_cons (de_pow (de_int c.cn) (de_int c.cn)) (da_cons (de_pow (de_int c.cn) (de_int c.cn)) (da_nil c.cn))))) (de_call F_law_take hr (by decide) (da_cons (de_var 0 c.cn) (da_cons (de_int c.cn) (da_nil c.cn))))) (da_nil c.cn))))))))))))⟩
/-! law_same -/
theorem foN_law_same (T : Txt P w K mg base A.toCa) : ∀ n, Fo P w K mg base (O A) (1 + n) "_law_same" 2 (mN_law_same A n)
  | 0 => by
    obtain ⟨f, fd, F, hg⟩ := T.f_law_same
    exact Fo.never hg F.kp (F.binds (ps := ["_law_found", "_law_due"]) fun _ _ _ _ _ _ us hl => match us, hl with | [_, _], _ => rfl) rfl
  | n + 1 => by
    have F_rec := foN_law_same T n
    obtain ⟨f, fd, F, hg⟩ := T.f_law_same
    refine fo_mk (N := ["_law_found", "_law_due", "_law_one", "_law_two"]) F sc_law_same hg (F.binds (ps := ["_law_found", "_law_due"]) fun _ _ _ _ _ _ us hl => match us, hl with | [_, _], _ => rfl) (fun cdv Ar outer s H E hr c => ?_)
    exact ⟨_, ((db_cons (ds_if (dt_truth (de_isT T.b_isinstance (de_var 1 c.cn) (da_cons (de_bltn (v := .ty "list") c.cn T.b_list (by decide +kernel) rfl (fun _ => .ty "list")) (da_cons (de_bltn (v := .ty "tuple") c.cn T.b_tuple (by decide +kernel) rfl (fun _ => .ty "tuple")) (da_nil c.cn)))))
  (db_cons (ds_if (DW.dt (dw_or (dt_ne hr (de_callB (f := dIsI) (call_isiG c.cn.hK) vcl_isI T.b_isinstance (by decide +kernel) (da_cons (de_var 0 c.cn) (da_cons (de_bltn (v := .ty "list") c.cn T.b_list (by decide +kernel) rfl (fun _ => .ty "list")) (da_nil c.cn)))) (de_callB (f := dIsI) (call_isiG c.cn.hK) vcl_isI T.b_isinstance (by decide +kernel) (da_cons (de_var 1 c.cn) (da_cons (de_bltn (v := .ty "list") c.cn T.b_list (by decide +kernel) rfl (fun _ => .ty "list")) (da_nil c.cn))))) (dw_or1 (dt_ne hr (de_callB (f := dIsI) (call_isiG c.cn.hK) vcl_isI T.b_isinstance (by decide +kernel) (da_cons (de_var 0 c.cn) (da_cons (de_bltn (v := .ty "tuple") c.cn T.b_tuple (by decide +kernel) rfl (fun _ => .ty "tuple")) (da_nil c.cn)))) (de_callB (f := dIsI) (call_isiG c.cn.hK) vcl_isI T.b_isinstance (by decide +kernel) (da_cons (de_var 1 c.cn) (da_cons (de_bltn (v := .ty "tuple") c.cn T.b_tuple (by decide +kernel) rfl (fun _ => .ty "tuple")) (da_nil c.cn))))))))
  (db_one (ds_ret (de_bl c.cn)))
  db_nil)
  (db_one (ds_ret (de_and (de_eq hr (de_callB (f := dLen) (call_lenG c.cn.hK) vcl_len T.b_len (by decide +kernel) (da_cons (de_var 0 c.cn) (da_nil c.cn))) (de_callB (f := dLen) (call_lenG c.cn.hK) vcl_len T.b_len (by decide +kernel) (da_cons (de_var 1 c.cn) (da_nil c.cn)))) (de_one (de_callB (f := dAll) (call_allG c.cn.hK c.hc) vcl_all T.b_all (by decide +kernel) (da_cons (dlc (own := [("_law_one", 2), ("_law_two", 3)]) c (di_zip T.b_zip (da_cons (de_var 0 c.cn) (da_cons (de_var 1 c.cn) (da_nil c.cn)))) (blkOk_by (N := ["_law_found", "_law_due", "_law_one", "_law_two"]) (sc := defScope s_law_same) (by decide +kernel)) (fun _ _ _ _ _ => (dg_tup c.cn.hK c.hc (dgs_cons (dg_name 2 c.nd) (dgs_cons (dg_name 3 c.nd) dgs_nil)))) (fun _ _ _ _ _ cn => dts_nil) (fun _ _ _ _ _ cn => (de_call F_rec hr (Nat.le_refl _) (da_cons (de_var 2 cn) (da_cons (de_var 3 cn) (da_nil cn)))))).dn.de (da_nil c.cn))))))))
  db_nil)
  (db_cons (ds_if (dt_truth (de_isT T.b_isinstance (de_var 1 c.cn) (da_cons (de_bltn (v := .ty "bool") c.cn T.b_bool (by decide +kernel) rfl (fun _ => .ty "bool")) (da_cons (de_bltn (v := .ty "int") c.cn T.b_int (by decide +kernel) rfl (fun _ => .ty "int")) (da_nil c.cn)))))
  (db_one (ds_ret (de_and (de_callB (f := dIsI) (call_isiG c.cn.hK) vcl_isI T.b_isinstance (by decide +kernel) (da_cons (de_var 0 c.cn) (da_cons (de_bltn (v := .ty "int") c.cn T.b_int (by decide +kernel) rfl (fun _ => .ty "int")) (da_nil c.cn)))) (de_and (de_eq hr (de_callB (f := dIsI) (call_isiG c.cn.hK) vcl_isI T.b_isinstance (by decide +kernel) (da_cons (de_var 0 c.cn) (da_cons (de_bltn (v := .ty "bool") c.cn T.b_bool (by decide +kernel) rfl (fun _ => .ty "bool")) (da_nil c.cn)))) (de_callB (f := dIsI) (call_isiG c.cn.hK) vcl_isI T.b_isinstance (by decide +kernel) (da_cons (de_var 1 c.cn) (da_cons (de_bltn (v := .ty "bool") c.cn T.b_bool (by decide +kernel) rfl (fun _ => .ty "bool")) (da_nil c.cn))))) (de_one (de_eq hr (de_var 0 c.cn) (de_var 1 c.cn)))))))
  db_nil)
  (db_one (ds_ret (de_and (de_is (de_callB (f := dIsI) (call_isiG c.cn.hK) vcl_isI T.b_isinstance (by decide +kernel) (da_cons (de_var 0 c.cn) (da_cons (de_bltn (v := .ty "bool") c.cn T.b_bool (by decide +kernel) rfl (fun _ => .ty "bool")) (da_nil c.cn)))) (de_bl c.cn)) (de_one (de_eq hr (de_var 0 c.cn) (de_var 1 c.cn)))))))))⟩
theorem fo_law_same (T : Txt P w K mg base A.toCa) : Fo P w K mg base (O A) 5 "_law_same" 2 (m_law_same A) := foN_law_same T 4
/-! law_result -/
theorem fo_law_result (T : Txt P w K mg base A.toCa) : Fo P w K mg base (O A) 1 "_law_result" 3 (m_law_result A) := by
  obtain ⟨f, fd, F, hg⟩ := T.f_law_result
  refine fo_mk (N := ["_law_operator", "_law_left", "_law_right", "_law_found"]) F sc_law_result hg (F.binds (ps := ["_law_operator", "_law_left", "_law_right"]) fun _ _ _ _ _ _ us hl => match us, hl with | [_, _, _], _ => rfl) (fun cdv Ar outer s H E hr c => ?_)
  exact ⟨_, ((db_cons (ds_if (DW.dt (dw_and (dt_in (de_var 0 c.cn) (de_tup (da_cons (de_str c.cn) (da_cons (de_str c.cn) (da_nil c.cn))))) (dw_and1 (dt_eq hr (de_var 2 c.cn) (de_int c.cn)))))
  (db_one (ds_ret (de_str c.cn)))
  db_nil)
  (db_cons (ds_ownD 3 c.nd (dps_cons (de_str c.cn) (de_add (de_var 1 c.cn) (de_var 2 c.cn)) (dps_cons (de_str c.cn) (de_sub (de_var 1 c.cn) (de_var 2 c.cn)) (dps_cons (de_str c.cn) (de_mul (de_var 1 c.cn) (de_var 2 c.cn)) (dps_cons (de_str c.cn) (de_var 1 c.cn) (dps_cons (de_str c.cn) (de_var 1 c.cn) (dps_nil c.cn)))))))
  (db_cons (ds_putD 3 hr (de_str c.cn) (de_callT (f := dIntC) (call_int1) vcl_int T.b_int (by decide +kernel) (da_cons (de_lt (de_var 1 c.cn) (de_var 2 c.cn)) (da_nil c.cn))))
  (db_cons (ds_putD 3 hr (de_str c.cn) (de_callT (f := dIntC) (call_int1) vcl_int T.b_int (by decide +kernel) (da_cons (de_eq hr (de_var 1 c.cn) (de_var 2 c.cn)) (da_nil c.cn))))
  (db_cons (ds_if (dt_lt (de_var 2 c.cn) (de_var 1 c.cn))
  (db_one (ds_putD 3 hr (de_str c.cn) (de_var 2 c.cn)))
  db_nil)
  (db_cons (ds_if (dt_gt (de_var 2 c.cn) (de_var 1 c.cn))
  (db_one (ds_putD 3 hr (de_str c.cn) (de_var 2 c.cn)))
  db_nil)
  (db_cons (ds_if (dt_ne hr (de_var 2 c.cn) (de_int c.cn))
  (db_cons (ds_putD 3 hr (de_str c.cn) (de_div (de_var 1 c.cn) (de_var 2 c.cn)))
  (db_one (ds_putD 3 hr (de_str c.cn) (de_sub (de_var 1 c.cn) (de_mul (de_var 2 c.cn) (de_div (de_var 1 c.cn) (de_var 2 c.cn)))))))
  db_nil)
  (db_cons (ds_if (dt_gt (de_callB (f := dLen) (call_lenG c.cn.hK) vcl_len T.b_len (by decide +kernel) (da_cons (de_callT (f := dStrI) (call_str_int) vcl_str T.b_str (by decide +kernel) (da_cons (de_callB (f := dAbs) (call_abs) vcl_abs T.b_abs (by decide +kernel) (da_cons (de_getD 3 hr (de_var 0 c.cn)) (da_nil c.cn))) (da_nil c.cn))) (da_nil c.cn))) (de_int c.cn))
  (db_one (ds_ret (de_str c.cn)))
  db_nil)
  (db_one (ds_ret (de_getD 3 hr (de_var 0 c.cn)))))))))))))⟩
/-! law_kind -/
theorem fo_law_kind (T : Txt P w K mg base A.toCa) : FoX P w K mg base (O A) 1 "_law_kind" (m_law_kind A) := by
  obtain ⟨f, fd, F, hg⟩ := T.f_law_kind
  refine foX_mk (N := ["_law_e", "_law_some"]) F sc_law_kind rfl rfl hg (F.binds (ps := ["_law_e"]) fun _ _ _ _ _ _ us hl => match us, hl with | [_], _ => rfl) (fun cdv Ar outer s H E a oe cls d hr hz hf cn => ?_)
  have hu : (Ar.deeper (envOfC "_law_kind" (defScope s_law_kind) s.heap.objs.size f cdv)).units + 65 < cLine := by have := hr.un; omega
  exact ⟨_, _, ((db_cons (ds_set 1 (by exact sc_law_kind.nd) (de_list (da_cons (de_isX 0 (t := (A.t .OperatorError)) cn List.mem_cons_self hz hf T.b_isinstance (de_glob (O := O A) (v := .ref (A.c .OperatorError)) (d := .ref (A.c .OperatorError)) cn T.gc_OperatorError rfl (fun _ => .ref _)).pe (fun _ h => h) T.is_OperatorError) (da_cons (de_isX 0 (t := (A.t .FaultError)) cn List.mem_cons_self hz hf T.b_isinstance (de_glob (O := O A) (v := .ref (A.c .FaultError)) (d := .ref (A.c .FaultError)) cn T.gc_FaultError rfl (fun _ => .ref _)).pe (fun _ h => h) T.is_FaultError) (da_cons (de_isX 0 (t := (A.t .AxisError)) cn List.mem_cons_self hz hf T.b_isinstance (de_glob (O := O A) (v := .ref (A.c .AxisError)) (d := .ref (A.c .AxisError)) cn T.gc_AxisError rfl (fun _ => .ref _)).pe (fun _ h => h) T.is_AxisError) (da_nil cn))))))
  (db_cons (ds_if (DW.dt (dw_or (dt_neU hu (de_countB (k := 0) hu (de_var 1 cn) (de_bl cn)) (de_int cn)) (dw_or (dt_not (dt_truth (de_isX 0 (t := A.tL) cn List.mem_cons_self hz hf T.b_isinstance (de_glob (O := O A) (v := .ref A.L) (d := .ref A.L) cn T.gc_LateCopyError rfl (fun _ => .ref _)).pe (fun _ h => h) T.is_LateCopyError))) (dw_or1 (dt_not (dt_truth (de_isX 0 (t := A.tL) cn List.mem_cons_self hz hf T.b_isinstance (de_bltn (O := O A) (v := .ty "ValueError") cn T.b_ValueError (by decide +kernel) rfl (fun _ => .ty "ValueError")).pe (fun _ h => h) T.is_ValueError)))))))
  (db_one (ds_ret (de_tup (da_cons (de_str cn) (da_nil cn)))))
  db_nil)
  (db_cons (ds_if (dt_truth (de_idx (de_var 1 cn) (de_int cn)))
  (db_one (ds_ret (de_tup (da_cons (de_str cn) (da_cons (de_xfX 0 cn List.mem_cons_self T.e_OperatorError.xf (by exact T.e_OperatorError.no _ (by decide)) hz hf) (da_nil cn))))))
  db_nil)
  (db_one (ds_ret (de_if (dt_truth (de_idx (de_var 1 cn) (de_int cn))) (de_tup (da_cons (de_str cn) (da_cons (de_xfX 0 cn List.mem_cons_self T.e_FaultError.xf (by exact T.e_FaultError.no _ (by decide)) hz hf) (da_nil cn)))) (de_tup (da_cons (de_str cn) (da_cons (de_xfX 0 cn List.mem_cons_self T.e_AxisError.xf (by exact T.e_AxisError.no _ (by decide)) hz hf) (da_nil cn))))))))))), rfl⟩
/-! law_folded -/
theorem fo_law_folded (T : Txt P w K mg base A.toCa) : Fo P w K mg base (O A) 2 "_law_folded" 2 (m_law_folded A) := by
  have F_law_result := fo_law_result (A := A) T
  obtain ⟨f, fd, F, hg⟩ := T.f_law_folded
  refine fo_mk (N := ["_law_operator", "_law_numbers", "_law_found", "_law_number_here"]) F sc_law_folded hg (F.binds (ps := ["_law_operator", "_law_numbers"]) fun _ _ _ _ _ _ us hl => match us, hl with | [_, _], _ => rfl) (fun cdv Ar outer s H E hr c => ?_)
  exact ⟨_, ((db_cons (ds_set 2 c.nd (de_idx (de_var 1 c.cn) (de_int c.cn)))
  (db_cons (ds_for c (di_seq (de_slice (de_var 1 c.cn) (do_some (de_int c.cn)) (do_none c.cn))) (dg_name 3 c.nd)
  (db_one (ds_if (dt_truth (de_callB (f := dIsI) (call_isiG c.cn.hK) vcl_isI T.b_isinstance (by decide +kernel) (da_cons (de_var 2 c.cn) (da_cons (de_bltn (v := .ty "int") c.cn T.b_int (by decide +kernel) rfl (fun _ => .ty "int")) (da_nil c.cn)))))
  (db_one (ds_set 2 c.nd (de_call F_law_result hr (by decide) (da_cons (de_var 0 c.cn) (da_cons (de_var 2 c.cn) (da_cons (de_var 3 c.cn) (da_nil c.cn)))))))
  db_nil)))
  (db_one (ds_ret (de_var 2 c.cn))))))⟩
/-! law_sixty -/
theorem fo_law_sixty (T : Txt P w K mg base A.toCa) : Fo P w K mg base (O A) 5 "_law_sixty" 1 (m_law_sixty A) := by
  have F_law_take := fo_law_take (A := A) T
  have F_apply := fo_apply (A := A) T
  obtain ⟨f, fd, F, hg⟩ := T.f_law_sixty
  refine fo_mk (N := ["_law_draws_here"]) F sc_law_sixty hg (F.binds (ps := ["_law_draws_here"]) fun _ _ _ _ _ _ us hl => match us, hl with | [_], _ => rfl) (fun cdv Ar outer s H E hr c => ?_)
  exact ⟨_, ((db_one (ds_ret (de_call F_apply hr (by decide) (da_cons (de_str c.cn) (da_cons (de_mul (de_idx (de_list (da_cons (de_int c.cn) (da_cons (de_neg (de_int c.cn)) (da_nil c.cn)))) (de_call F_law_take hr (by decide) (da_cons (de_var 0 c.cn) (da_cons (de_int c.cn) (da_nil c.cn))))) (de_pow (de_int c.cn) (de_int c.cn))) (da_cons (de_pow (de_int c.cn) (de_int c.cn)) (da_nil c.cn))))))))⟩
/-! law_done -/
theorem fo_law_done (T : Txt P w K mg base A.toCa) : Fo P w K mg base (O A) 6 "_law_done" 2 (m_law_done A) := by
  have F_law_kind := fo_law_kind (A := A) T
  have F_fold := fo_fold (A := A) T
  obtain ⟨f, fd, F, hg⟩ := T.f_law_done
  refine fo_mk (N := ["_law_operator", "_law_numbers", "_law_found", "_law_e"]) F sc_law_done hg (F.binds (ps := ["_law_operator", "_law_numbers"]) fun _ _ _ _ _ _ us hl => match us, hl with | [_, _], _ => rfl) (fun cdv Ar outer s H E hr c => ?_)
  exact ⟨_, ((db_cons (ds_set 2 c.nd (de_tup (da_cons (de_str c.cn) (da_nil c.cn))))
  (db_cons (by exact ds_tryE 3 c (T.x_LateCopyError) (by exact ⟨rfl, by decide, .inl T.gc_LateCopyError⟩) (by exact ⟨_, fun _ _ _ c => (db_one (ds_set 2 c.nd (de_tup (da_cons (de_str c.cn) (da_cons (de_call F_fold hr (by decide) (da_cons (de_var 0 c.cn) (da_cons (de_var 1 c.cn) (da_nil c.cn)))) (da_nil c.cn))))))⟩) (by exact ⟨_, _, fun _ _ _ _ _ hz hf cn => (db_one (ds_set 2 (by exact c.nd) (de_callX 3 F_law_kind hr (by decide) cn hz hf))), fun _ _ _ => rfl⟩))
  (db_one (ds_ret (de_var 2 c.cn))))))⟩
/-! the law itself -/
def eD (i : Nat) : Expr := match defBody s_law_draws with
  | [.Return (some (.List es _)) _] => es.getD i (.Constant .none 0 ⟨0, 0, 0, 0⟩)
  | _ => .Constant .none 0 ⟨0, 0, 0, 0⟩
theorem ok_draws {f : Addr} {fd : FuncData} (F : Fun K "_law_draws" "_law_draws" s_law_draws f fd) : FnOk P w K mg base (L2.CX P w) 1 f fd ["_law_script"] (spDraws K) := by
  refine F.okX sc_law_draws (fun vs H Q E h => by obtain ⟨l, ns, rfl, _⟩ := h; rfl) (fun cdv Ar outer s H vs Q E hr h => ?_)
  obtain ⟨l, ns, rfl, hS, hl, q⟩ := h
  have tk : Takes (cxOf (L2.CX P w) P w K mg base ["_law_script", "_law_cell"] "_law_draws" (defScope s_law_draws) f cdv Ar outer s H E) (fun cls d _ H => E cls d H) := takes_of rfl rfl rfl rfl
  have c : Cs K (fun cls d _ H => E cls d H) (cxOf (L2.CX P w) P w K mg base ["_law_script", "_law_cell"] "_law_draws" (defScope s_law_draws) f cdv Ar outer s H E) := ⟨⟨rfl, tk⟩, passes_of rfl, rfl, sc_law_draws.nd⟩
  have d1 : ∃ t, DN K W0 (fun cls d _ H => E cls d H) (cxOf (L2.CX P w) P w K mg base ["_law_script", "_law_cell"] "_law_draws" (defScope s_law_draws) f cdv Ar outer s H E) (eD 0) t (mLc W0 (mItS W0 (mVar W0 0)) (fName 1) (mTest W0 (mBin W0 dGe (mVar W0 1) (mBin W0 dPow (mC W0 (.int 10)) (mC W0 (.int 18))))) (mVar W0 1) [1]) := ⟨_, (dlc (K := K) (O := W0) (own := [("_law_cell", 1)]) c (di_seq (de_var 0 c.cn)) (blkOk_by (N := ["_law_script", "_law_cell"]) (sc := defScope s_law_draws) (by decide +kernel)) (fun _ _ _ _ _ => (dg_name 1 c.nd)) (fun _ _ _ _ _ cn => (dts_one (dt_ge (de_var 1 cn) (de_pow (de_int cn) (de_int cn))))) (fun _ _ _ _ _ cn => (de_var 1 cn))).dn⟩
  obtain ⟨t1, d1⟩ := d1
  have d2 : ∃ t, DN K W0 (fun cls d _ H => E cls d H) (cxOf (L2.CX P w) P w K mg base ["_law_script", "_law_cell"] "_law_draws" (defScope s_law_draws) f cdv Ar outer s H E) (eD 2) t (mLc W0 (mItS W0 (mVar W0 0)) (fName 1) (mTest W0 (mBin W0 dLt (mVar W0 1) (mBin W0 dPow (mC W0 (.int 10)) (mC W0 (.int 18))))) (mVar W0 1) [1]) := ⟨_, (dlc (K := K) (O := W0) (own := [("_law_cell", 1)]) c (di_seq (de_var 0 c.cn)) (blkOk_by (N := ["_law_script", "_law_cell"]) (sc := defScope s_law_draws) (by decide +kernel)) (fun _ _ _ _ _ => (dg_name 1 c.nd)) (fun _ _ _ _ _ cn => (dts_one (dt_lt (de_var 1 cn) (de_pow (de_int cn) (de_int cn))))) (fun _ _ _ _ _ cn => (de_var 1 cn))).dn⟩
  obtain ⟨t2, d2⟩ := d2
  refine ⟨_, pss_one (ps_ret (pe_lst (pa_cons d1.pe (pa_cons pe_int (pa_cons d2.pe (pa_cons pe_int pa_nil)))))), ?_⟩
  exact draws_read (E := E) rfl d1.sn d2.sn rfl hS (draws_m1 hl) (draws_m2 hl) q
theorem ok_law {C : Ca} {f : Addr} {fd : FuncData} (T : Txt P w K mg base C) (F : Fun K "law" "law" s_law f fd)
    (hm : ∀ (A : Ad) (ns : List Int), A.es = [.AxisError, .OperatorError, .FaultError] → A.toCa.Inj → ns.length ≤ 63 → ∃ s, mb_law A (.sh (.lst (ns.map D.int)) :: .sh (.ref A.d) :: List.replicate 8 .no) ⟨ns.filter (fun n => decide (10 ^ 18 ≤ n)), 0, ns.filter (fun n => decide (n < 10 ^ 18)), 0⟩ = .rt (.bl true) s) :
    FnOk P w K mg base (L2.CX P w) 7 f fd ["_law_script"] (spLaw K) := by
  obtain ⟨fD, fdD, FD, gD⟩ := T.f_law_draws
  have GD : FnOk P w K mg base (L2.CX P w) 1 fD fdD ["_law_script"] (spDraws K) := ok_draws FD
  have bD := FD.binds (ps := ["_law_script"]) fun _ _ _ _ _ _ us hl => match us, hl with | [_], _ => rfl
  refine F.okX (N := ["_law_script", "_law_draws_here", "_law_turn", "_law_some", "_law_operator", "_law_numbers", "_law_due", "_law_found", "_law_kept", "_law_k"]) sc_law (fun vs H Q E h => by obtain ⟨l, ns, rfl, _⟩ := h; rfl) (fun cdv Ar outer s H vs Q E hr h => ?_)
  obtain ⟨l, ns, rfl, hS, hl, q⟩ := h
  have tk : Takes (cxOf (L2.CX P w) P w K mg base ["_law_script", "_law_draws_here", "_law_turn", "_law_some", "_law_operator", "_law_numbers", "_law_due", "_law_found", "_law_kept", "_law_k"] "law" (defScope s_law) f cdv Ar outer s H E) (fun cls d _ H => E cls d H) := takes_of rfl rfl rfl rfl
  have c : Cs K (fun cls d _ H => E cls d H) (cxOf (L2.CX P w) P w K mg base ["_law_script", "_law_draws_here", "_law_turn", "_law_some", "_law_operator", "_law_numbers", "_law_due", "_law_found", "_law_kept", "_law_k"] "law" (defScope s_law) f cdv Ar outer s H E) := ⟨⟨rfl, tk⟩, passes_of rfl, rfl, sc_law.nd⟩
  have D : ∀ o : Addr × Addr × Addr, ∃ t, DB K (O ⟨C, o.1, o.2.1, o.2.2⟩) (fun cls d _ H => E cls d H) (cxOf (L2.CX P w) P w K mg base ["_law_script", "_law_draws_here", "_law_turn", "_law_some", "_law_operator", "_law_numbers", "_law_due", "_law_found", "_law_kept", "_law_k"] "law" (defScope s_law) f cdv Ar outer s H E) (defBody s_law).tail t (mb_law ⟨C, o.1, o.2.1, o.2.2⟩) := by
    intro o
    let A : Ad := ⟨C, o.1, o.2.1, o.2.2⟩
    have F_law_done := fo_law_done (A := A) T
    have F_law_folded := fo_law_folded (A := A) T
    have F_law_great := fo_law_great (A := A) T
    have F_law_same := fo_law_same (A := A) T
    have F_law_sixty := fo_law_sixty (A := A) T
    have F_law_take := fo_law_take (A := A) T
    exact ⟨_, (db_cons (ds_for c (di_range1 T.b_range (da_cons (de_int c.cn) (da_nil c.cn))) (dg_name 2 c.nd)
  (db_cons (ds_set 3 c.nd (de_list (da_cons (de_str c.cn) (da_cons (de_str c.cn) (da_cons (de_str c.cn) (da_cons (de_str c.cn) (da_cons (de_str c.cn) (da_cons (de_str c.cn) (da_cons (de_str c.cn) (da_cons (de_str c.cn) (da_cons (de_str c.cn) (da_cons (de_str c.cn) (da_cons (de_str c.cn) (da_cons (de_str c.cn) (da_cons (de_str c.cn) (da_nil c.cn))))))))))))))))
  (db_cons (ds_set 4 c.nd (de_idx (de_var 3 c.cn) (de_call F_law_take hr (by decide) (da_cons (de_var 1 c.cn) (da_cons (de_int c.cn) (da_nil c.cn))))))
  (db_cons (ds_setLc 5 c.nd (dlc (own := [("_law_k", 9)]) c (di_range1 T.b_range (da_cons (de_add (de_int c.cn) (de_call F_law_take hr (by decide) (da_cons (de_var 1 c.cn) (da_cons (de_idx (de_list (da_cons (de_int c.cn) (da_cons (de_int c.cn) (da_cons (de_int c.cn) (da_nil c.cn))))) (de_call F_law_take hr (by decide) (da_cons (de_var 1 c.cn) (da_cons (de_int c.cn) (da_nil c.cn))))) (da_nil c.cn))))) (da_nil c.cn))) (blkOk_by (N := ["_law_script", "_law_draws_here", "_law_turn", "_law_some", "_law_operator", "_law_numbers", "_law_due", "_law_found", "_law_kept", "_law_k"]) (sc := defScope s_law) (by decide +kernel)) (fun _ _ _ _ _ => (dg_name 9 c.nd)) (fun _ _ _ _ _ cn => dts_nil) (fun _ _ _ _ _ cn => (de_call F_law_great hr (by decide) (da_cons (de_var 1 cn) (da_nil cn))))))
  (db_cons (ds_if (DW.dt (dw_and (dt_eq hr (de_var 4 c.cn) (de_str c.cn)) (dw_and1 (dt_eq hr (de_call F_law_take hr (by decide) (da_cons (de_var 1 c.cn) (da_cons (de_int c.cn) (da_nil c.cn)))) (de_int c.cn)))))
  (db_one (ds_setLc 5 c.nd (dlc (own := [("_law_k", 9)]) c (di_range1 T.b_range (da_cons (de_callB (f := dLen) (call_lenG c.cn.hK) vcl_len T.b_len (by decide +kernel) (da_cons (de_var 5 c.cn) (da_nil c.cn))) (da_nil c.cn))) (blkOk_by (N := ["_law_script", "_law_draws_here", "_law_turn", "_law_some", "_law_operator", "_law_numbers", "_law_due", "_law_found", "_law_kept", "_law_k"]) (sc := defScope s_law) (by decide +kernel)) (fun _ _ _ _ _ => (dg_name 9 c.nd)) (fun _ _ _ _ _ cn => dts_nil) (fun _ _ _ _ _ cn => (de_sub (de_call F_law_take hr (by decide) (da_cons (de_var 1 cn) (da_cons (de_int cn) (da_nil cn)))) (de_int cn))))))
  db_nil)
  (db_cons (ds_if (dt_eq hr (de_call F_law_take hr (by decide) (da_cons (de_var 1 c.cn) (da_cons (de_int c.cn) (da_nil c.cn)))) (de_int c.cn))
  (db_one (ds_set 5 c.nd (de_add (de_slice (de_var 5 c.cn) (do_none c.cn) (do_some (de_int c.cn))) (de_list (da_cons (de_call F_law_sixty hr (by decide) (da_cons (de_var 1 c.cn) (da_nil c.cn))) (da_cons (de_call F_law_sixty hr (by decide) (da_cons (de_var 1 c.cn) (da_nil c.cn))) (da_nil c.cn)))))))
  db_nil)
  (db_cons (ds_if (dt_eq hr (de_call F_law_take hr (by decide) (da_cons (de_var 1 c.cn) (da_cons (de_int c.cn) (da_nil c.cn)))) (de_int c.cn))
  (db_one (ds_setLc 5 c.nd (dlc (own := [("_law_k", 9)]) c (di_range1 T.b_range (da_cons (de_int c.cn) (da_nil c.cn))) (blkOk_by (N := ["_law_script", "_law_draws_here", "_law_turn", "_law_some", "_law_operator", "_law_numbers", "_law_due", "_law_found", "_law_kept", "_law_k"]) (sc := defScope s_law) (by decide +kernel)) (fun _ _ _ _ _ => (dg_name 9 c.nd)) (fun _ _ _ _ _ cn => dts_nil) (fun _ _ _ _ _ cn => (de_sub (de_call F_law_take hr (by decide) (da_cons (de_var 1 cn) (da_cons (de_int cn) (da_nil cn)))) (de_int cn))))))
  db_nil)
  (db_cons (ds_set 6 c.nd (de_tup (da_cons (de_str c.cn) (da_cons (de_var 4 c.cn) (da_nil c.cn)))))
  (db_cons (ds_if (dt_in (de_var 4 c.cn) (de_tup (da_cons (de_str c.cn) (da_cons (de_str c.cn) (da_cons (de_str c.cn) (da_cons (de_str c.cn) (da_nil c.cn)))))))
  (db_cons (ds_set 7 c.nd (de_call F_law_folded hr (by decide) (da_cons (de_var 4 c.cn) (da_cons (de_var 5 c.cn) (da_nil c.cn)))))
  (db_one (ds_set 6 c.nd (de_if (dt_truth (de_callB (f := dIsI) (call_isiG c.cn.hK) vcl_isI T.b_isinstance (by decide +kernel) (da_cons (de_var 7 c.cn) (da_cons (de_bltn (v := .ty "int") c.cn T.b_int (by decide +kernel) rfl (fun _ => .ty "int")) (da_nil c.cn))))) (de_tup (da_cons (de_str c.cn) (da_cons (de_var 7 c.cn) (da_nil c.cn)))) (de_tup (da_cons (de_str c.cn) (da_cons (de_var 7 c.cn) (da_nil c.cn))))))))
  db_nil)
  (db_cons (ds_set 8 c.nd (de_callT (f := dListOf) (call_listG c.cn.hK) vcl_listOf T.b_list (by decide +kernel) (da_cons (de_var 5 c.cn) (da_nil c.cn))))
  (db_cons (ds_if (DW.dt (dw_or (dt_not (dt_truth (de_call F_law_same hr (by decide) (da_cons (de_call F_law_done hr (by decide) (da_cons (de_var 4 c.cn) (da_cons (de_var 5 c.cn) (da_nil c.cn)))) (da_cons (de_var 6 c.cn) (da_nil c.cn)))))) (dw_or1 (dt_ne hr (de_var 5 c.cn) (de_var 8 c.cn)))))
  (db_one (ds_ret (de_bl c.cn)))
  db_nil)
  (db_one (ds_if (dt_not (dt_truth (de_call F_law_same hr (by decide) (da_cons (de_call F_law_done hr (by decide) (da_cons (de_var 4 c.cn) (da_cons (de_callT (f := dTupOf) (call_tupG c.cn.hK) vcl_tupOf T.b_tuple (by decide +kernel) (da_cons (de_var 5 c.cn) (da_nil c.cn))) (da_nil c.cn)))) (da_cons (de_var 6 c.cn) (da_nil c.cn))))))
  (db_one (ds_ret (de_bl c.cn)))
  db_nil)))))))))))))
  (db_one (ds_ret (de_bl c.cn))))⟩
  refine ⟨_, pss_cons (rest := (defBody s_law).tail) (ps_set (i := 1) sc_law.nd rfl (by first | exact Or.inl rfl | exact Or.inr rfl) (pe_callS GD (hr.mono (by decide)) (by rfl) gD FD.kp bD (fun σ => passAt tk σ) (pa_cons (pv 0) pa_nil))) (pss_ex fun o => (D o).choose_spec.pe), ?_⟩
  refine ⟨.ref l, rfl, l, ns, rfl, hS, by omega, fun H1 d a b sm nd na nb ok => ⟨(d, a, b), ?_⟩⟩
  obtain ⟨s1, e⟩ := hm ⟨C, d, a, b⟩ ns T.es T.inj hl
  refine (D (d, a, b)).choose_spec.sn H H1 _ _ H H1 _ _ (law_fm (n := 8) hS sm nd na nb ok rfl rfl rfl) ?_
  rw [e]
  exact fun v G' H' _ _ _ r => by cases r; exact q H'
end
end K43

namespace K43
open PySem PySem.Spec PyProof.Rows L2 RZ Mr S
def Fld (x : Str) : Prop := x ∈ (["+", "*", "min", "max"] : List Str)
theorem Fld.op {x : Str} (h : Fld x) : Op x := by
  unfold Fld at h
  unfold Op
  simp only [List.mem_cons, List.not_mem_nil, or_false] at h ⊢
  rcases h with rfl | rfl | rfl | rfl <;> simp
/-- behind a fault the law's own fold stays -/
theorem folded_flt (A : Ad) {op x : Str} {n : Sl} {s : Dr} : ∀ (xs : List Int) (r3 : Sl), ∃ y3, forL (O A) (fName 3) (bd_law_folded_0 A) (xs.map D.int) [.sh (.str op), n, .sh (.str x), r3] s = .nx [.sh (.str op), n, .sh (.str x), y3] s
  | [], r3 => ⟨r3, by simp only [List.map_nil, forL]⟩
  | z :: xs, r3 => by
    obtain ⟨y3, e⟩ := folded_flt A (op := op) (x := x) (n := n) (s := s) xs (.sh (.int z))
    have t1 : dIsI [.str x, .ty "int"] = some (.bl false) := rfl
    refine ⟨y3, ?_⟩
    rw [← e]
    simp only [List.map_cons, forL, bd_law_folded_0, runF, mSeq, seqS, mAsg, mBin, mUn, mVar, mC, mRet, mNext, mIfS, mTest, mTruth, mAnd, mOr, mNot, mAndV, mOrV, mNotV, mCl, mCons, mNil, mCall, mDrop, mDrI, mDrNe, mDrIx, mDrLen, mDrSet, mDrPop, drL, isDr0, toS, fName, R.lift, bind_ok, bind_err, bind_bad, eAdd, eSub, eMul, eDiv, eMod, ePow, eNeg, eLt, eLe, eGt, eGe, eEqI, eNeI, eEqS, eEqB, eNeB, eIdxL, eIdxT, eBool, eAbs, Bool.false_eq_true, dList, dTup, if_true, if_false, if_pos, List.map_cons, List.map_nil, List.length_cons, List.length_nil, List.replicate, List.cons_append, List.nil_append, List.getElem?_cons_zero, List.getElem?_cons_succ, List.set_cons_zero, List.set_cons_succ, Nat.reduceAdd, Nat.reduceSub, Nat.reduceLeDiff, Nat.reduceLT, Nat.reduceMul, Int.reduceToNat, Int.reduceEq, Int.reduceAdd, Int.reduceSub, Int.reduceNeg, Bool.not_true, Bool.not_false, decide_true, decide_false, reduceIte, Nat.reduceEqDiff, ite_true, ite_false, mIf, mLst, mSlice, mPart, mNoPart, mItS, mItL, mItT, asSeq, asList, asTup, mFor, mPar, mPass, mBrk, mCnt, mRetN, t1, dTruth]
/-- what both folds give -/
def Fo2 (A : Ad) (s : Dr) (op : Str) (x : Int) (xs : List Int) (o : Out) : Prop := ∀ (n r3 : Sl), (∃ y3, forL (O A) (fName 3) (bd_law_folded_0 A) (xs.map D.int) [.sh (.str op), n, .sh (.int x), r3] s = .nx [.sh (.str op), n, .sh o.d, y3] s) ∧
  match o with
  | .num w => ∃ y3, forL (O A) (fName 3) (bd_fold_0 A) (xs.map D.int) [.sh (.str op), n, .sh (.int x), r3] s = .nx [.sh (.str op), n, .sh (.int w), y3] s
  | .flt t => ∃ ρ, forL (O A) (fName 3) (bd_fold_0 A) (xs.map D.int) [.sh (.str op), n, .sh (.int x), r3] s = .err (A.c .FaultError) [("reason", .str t)] ρ s
theorem fold_both (A : Ad) (s : Dr) {op : Str} (ho : Fld op) : ∀ (xs : List Int) (x : Int), (∀ y ∈ x :: xs, -(10 ^ 61) < y ∧ y < 10 ^ 61) → ∃ o : Out, Fo2 A s op x xs o
  | [], x, _ => ⟨.num x, fun n r3 => ⟨⟨r3, by simp only [List.map_nil, forL, Out.d]⟩, ⟨r3, by simp only [List.map_nil, forL]⟩⟩⟩
  | z :: xs, x, h => by
    obtain ⟨x0, x1⟩ := h x List.mem_cons_self
    obtain ⟨z0, z1⟩ := h z (List.mem_cons_of_mem _ List.mem_cons_self)
    obtain ⟨o, ob, both⟩ := op_both ho.op x0 x1 z0 z1
    obtain ⟨ea, el⟩ := both A s
    have t1 : dIsI [.int x, .ty "int"] = some (.bl true) := rfl
    cases o with
    | num w =>
      have wb := ob w rfl
      obtain ⟨o2, h2⟩ := fold_both A s ho xs w (fun y hy => by
        rcases List.mem_cons.mp hy with rfl | hy
        · omega
        · exact h y (List.mem_cons_of_mem _ (List.mem_cons_of_mem _ hy)))
      refine ⟨o2, fun n r3 => ?_⟩
      obtain ⟨⟨y3, e1⟩, e2⟩ := h2 n (.sh (.int z))
      have st1 : forL (O A) (fName 3) (bd_law_folded_0 A) ((z :: xs).map D.int) [.sh (.str op), n, .sh (.int x), r3] s = forL (O A) (fName 3) (bd_law_folded_0 A) (xs.map D.int) [.sh (.str op), n, .sh (.int w), .sh (.int z)] s := by
        simp only [Out.d] at el
        simp only [List.map_cons, forL, bd_law_folded_0, runF, mSeq, seqS, mAsg, mBin, mUn, mVar, mC, mRet, mNext, mIfS, mTest, mTruth, mAnd, mOr, mNot, mAndV, mOrV, mNotV, mCl, mCons, mNil, mCall, mDrop, mDrI, mDrNe, mDrIx, mDrLen, mDrSet, mDrPop, drL, isDr0, toS, fName, R.lift, bind_ok, bind_err, bind_bad, eAdd, eSub, eMul, eDiv, eMod, ePow, eNeg, eLt, eLe, eGt, eGe, eEqI, eNeI, eEqS, eEqB, eNeB, eIdxL, eIdxT, eBool, eAbs, Bool.false_eq_true, dList, dTup, if_true, if_false, if_pos, List.map_cons, List.map_nil, List.length_cons, List.length_nil, List.replicate, List.cons_append, List.nil_append, List.getElem?_cons_zero, List.getElem?_cons_succ, List.set_cons_zero, List.set_cons_succ, Nat.reduceAdd, Nat.reduceSub, Nat.reduceLeDiff, Nat.reduceLT, Nat.reduceMul, Int.reduceToNat, Int.reduceEq, Int.reduceAdd, Int.reduceSub, Int.reduceNeg, Bool.not_true, Bool.not_false, decide_true, decide_false, reduceIte, Nat.reduceEqDiff, ite_true, ite_false, mIf, mLst, mSlice, mPart, mNoPart, mItS, mItL, mItT, asSeq, asList, asTup, mFor, mPar, mPass, mBrk, mCnt, mRetN, t1, dTruth, el]
      have st2 : forL (O A) (fName 3) (bd_fold_0 A) ((z :: xs).map D.int) [.sh (.str op), n, .sh (.int x), r3] s = forL (O A) (fName 3) (bd_fold_0 A) (xs.map D.int) [.sh (.str op), n, .sh (.int w), .sh (.int z)] s := by
        simp only [Out.r] at ea
        simp only [List.map_cons, forL, bd_fold_0, runF, mSeq, seqS, mAsg, mBin, mUn, mVar, mC, mRet, mNext, mIfS, mTest, mTruth, mAnd, mOr, mNot, mAndV, mOrV, mNotV, mCl, mCons, mNil, mCall, mDrop, mDrI, mDrNe, mDrIx, mDrLen, mDrSet, mDrPop, drL, isDr0, toS, fName, R.lift, bind_ok, bind_err, bind_bad, eAdd, eSub, eMul, eDiv, eMod, ePow, eNeg, eLt, eLe, eGt, eGe, eEqI, eNeI, eEqS, eEqB, eNeB, eIdxL, eIdxT, eBool, eAbs, Bool.false_eq_true, dList, dTup, if_true, if_false, if_pos, List.map_cons, List.map_nil, List.length_cons, List.length_nil, List.replicate, List.cons_append, List.nil_append, List.getElem?_cons_zero, List.getElem?_cons_succ, List.set_cons_zero, List.set_cons_succ, Nat.reduceAdd, Nat.reduceSub, Nat.reduceLeDiff, Nat.reduceLT, Nat.reduceMul, Int.reduceToNat, Int.reduceEq, Int.reduceAdd, Int.reduceSub, Int.reduceNeg, Bool.not_true, Bool.not_false, decide_true, decide_false, reduceIte, Nat.reduceEqDiff, ite_true, ite_false, mIf, mLst, mSlice, mPart, mNoPart, mItS, mItL, mItT, asSeq, asList, asTup, mFor, mPar, mPass, mBrk, mCnt, mRetN, ea]
      rw [st1, st2]
      exact ⟨⟨y3, e1⟩, e2⟩
    | flt t =>
      refine ⟨.flt t, fun n r3 => ?_⟩
      obtain ⟨y3, e3⟩ := folded_flt A (op := op) (x := t) (n := n) (s := s) xs (.sh (.int z))
      refine ⟨⟨y3, ?_⟩, ⟨[.sh (.str op), n, .sh (.int x), .sh (.int z)], ?_⟩⟩
      · simp only [Out.d] at el ⊢
        rw [← e3]
        simp only [List.map_cons, forL, bd_law_folded_0, runF, mSeq, seqS, mAsg, mBin, mUn, mVar, mC, mRet, mNext, mIfS, mTest, mTruth, mAnd, mOr, mNot, mAndV, mOrV, mNotV, mCl, mCons, mNil, mCall, mDrop, mDrI, mDrNe, mDrIx, mDrLen, mDrSet, mDrPop, drL, isDr0, toS, fName, R.lift, bind_ok, bind_err, bind_bad, eAdd, eSub, eMul, eDiv, eMod, ePow, eNeg, eLt, eLe, eGt, eGe, eEqI, eNeI, eEqS, eEqB, eNeB, eIdxL, eIdxT, eBool, eAbs, Bool.false_eq_true, dList, dTup, if_true, if_false, if_pos, List.map_cons, List.map_nil, List.length_cons, List.length_nil, List.replicate, List.cons_append, List.nil_append, List.getElem?_cons_zero, List.getElem?_cons_succ, List.set_cons_zero, List.set_cons_succ, Nat.reduceAdd, Nat.reduceSub, Nat.reduceLeDiff, Nat.reduceLT, Nat.reduceMul, Int.reduceToNat, Int.reduceEq, Int.reduceAdd, Int.reduceSub, Int.reduceNeg, Bool.not_true, Bool.not_false, decide_true, decide_false, reduceIte, Nat.reduceEqDiff, ite_true, ite_false, mIf, mLst, mSlice, mPart, mNoPart, mItS, mItL, mItT, asSeq, asList, asTup, mFor, mPar, mPass, mBrk, mCnt, mRetN, t1, dTruth, el]
      · simp only [Out.r] at ea
        simp only [List.map_cons, forL, bd_fold_0, runF, mSeq, seqS, mAsg, mBin, mUn, mVar, mC, mRet, mNext, mIfS, mTest, mTruth, mAnd, mOr, mNot, mAndV, mOrV, mNotV, mCl, mCons, mNil, mCall, mDrop, mDrI, mDrNe, mDrIx, mDrLen, mDrSet, mDrPop, drL, isDr0, toS, fName, R.lift, bind_ok, bind_err, bind_bad, eAdd, eSub, eMul, eDiv, eMod, ePow, eNeg, eLt, eLe, eGt, eGe, eEqI, eNeI, eEqS, eEqB, eNeB, eIdxL, eIdxT, eBool, eAbs, Bool.false_eq_true, dList, dTup, if_true, if_false, if_pos, List.map_cons, List.map_nil, List.length_cons, List.length_nil, List.replicate, List.cons_append, List.nil_append, List.getElem?_cons_zero, List.getElem?_cons_succ, List.set_cons_zero, List.set_cons_succ, Nat.reduceAdd, Nat.reduceSub, Nat.reduceLeDiff, Nat.reduceLT, Nat.reduceMul, Int.reduceToNat, Int.reduceEq, Int.reduceAdd, Int.reduceSub, Int.reduceNeg, Bool.not_true, Bool.not_false, decide_true, decide_false, reduceIte, Nat.reduceEqDiff, ite_true, ite_false, mIf, mLst, mSlice, mPart, mNoPart, mItS, mItL, mItT, asSeq, asList, asTup, mFor, mPar, mPass, mBrk, mCnt, mRetN, ea]
theorem in_folds {op : Str} (h : Fld op) : dNotIn (.str op) k_FOLDS = some (.bl false) ∧ dIn (.str op) (.tup [.str "+", .str "*", .str "min", .str "max"]) = some (.bl true) := by
  unfold Fld at h
  simp only [List.mem_cons, List.not_mem_nil, or_false] at h
  rcases h with rfl | rfl | rfl | rfl <;> exact ⟨rfl, rfl⟩
def isSeq (d : D) (xs : List Int) : Prop := d = .lst (xs.map D.int) ∨ d = .tup (xs.map D.int)
theorem fold_ok (A : Ad) (s : Dr) {op : Str} (ho : Fld op) {x : Int} {xs : List Int} {o : Out} {d : D} (hd : isSeq d (x :: xs)) (h : Fo2 A s op x xs o) : m_fold A [.str op, d] s = o.r A s := by
  have ck := check_some A (s := s) (in_folds ho).1
  have ix : dIdx d (.int 0) = some (.int x) := by rcases hd with rfl | rfl <;> exact at0 _ _
  have cu : ∃ d2, dCut d (some 1) none = some d2 ∧ asSeq d2 = some (xs.map D.int) := by
    rcases hd with rfl | rfl <;> exact ⟨_, rfl, by simp only [asSeq, List.map_cons, cut_tail]⟩
  obtain ⟨d2, cu, sq⟩ := cu
  have h2 := (h (.sh d) .no).2
  cases o with
  | num w =>
    obtain ⟨y3, e⟩ := h2
    simp only [m_fold, mb_fold, runF, mSeq, seqS, mAsg, mBin, mUn, mVar, mC, mRet, mNext, mIfS, mTest, mTruth, mAnd, mOr, mNot, mAndV, mOrV, mNotV, mCl, mCons, mNil, mCall, mDrop, mDrI, mDrNe, mDrIx, mDrLen, mDrSet, mDrPop, drL, isDr0, toS, fName, R.lift, bind_ok, bind_err, bind_bad, eAdd, eSub, eMul, eDiv, eMod, ePow, eNeg, eLt, eLe, eGt, eGe, eEqI, eNeI, eEqS, eEqB, eNeB, eIdxL, eIdxT, eBool, eAbs, Bool.false_eq_true, dList, dTup, if_true, if_false, if_pos, List.map_cons, List.map_nil, List.length_cons, List.length_nil, List.replicate, List.cons_append, List.nil_append, List.getElem?_cons_zero, List.getElem?_cons_succ, List.set_cons_zero, List.set_cons_succ, Nat.reduceAdd, Nat.reduceSub, Nat.reduceLeDiff, Nat.reduceLT, Nat.reduceMul, Int.reduceToNat, Int.reduceEq, Int.reduceAdd, Int.reduceSub, Int.reduceNeg, Bool.not_true, Bool.not_false, decide_true, decide_false, reduceIte, Nat.reduceEqDiff, ite_true, ite_false, mIf, mLst, mSlice, mPart, mNoPart, mItS, mItL, mItT, asSeq, asList, asTup, mFor, mPar, mPass, mBrk, mCnt, mRetN, ck, ix, cu]
    simp only [asSeq] at sq
    simp only [sq, R.lift, bind_ok, toS, e]
    rfl
  | flt t =>
    obtain ⟨ρ, e⟩ := h2
    simp only [m_fold, mb_fold, runF, mSeq, seqS, mAsg, mBin, mUn, mVar, mC, mRet, mNext, mIfS, mTest, mTruth, mAnd, mOr, mNot, mAndV, mOrV, mNotV, mCl, mCons, mNil, mCall, mDrop, mDrI, mDrNe, mDrIx, mDrLen, mDrSet, mDrPop, drL, isDr0, toS, fName, R.lift, bind_ok, bind_err, bind_bad, eAdd, eSub, eMul, eDiv, eMod, ePow, eNeg, eLt, eLe, eGt, eGe, eEqI, eNeI, eEqS, eEqB, eNeB, eIdxL, eIdxT, eBool, eAbs, Bool.false_eq_true, dList, dTup, if_true, if_false, if_pos, List.map_cons, List.map_nil, List.length_cons, List.length_nil, List.replicate, List.cons_append, List.nil_append, List.getElem?_cons_zero, List.getElem?_cons_succ, List.set_cons_zero, List.set_cons_succ, Nat.reduceAdd, Nat.reduceSub, Nat.reduceLeDiff, Nat.reduceLT, Nat.reduceMul, Int.reduceToNat, Int.reduceEq, Int.reduceAdd, Int.reduceSub, Int.reduceNeg, Bool.not_true, Bool.not_false, decide_true, decide_false, reduceIte, Nat.reduceEqDiff, ite_true, ite_false, mIf, mLst, mSlice, mPart, mNoPart, mItS, mItL, mItT, asSeq, asList, asTup, mFor, mPar, mPass, mBrk, mCnt, mRetN, ck, ix, cu]
    simp only [asSeq] at sq
    simp only [sq, R.lift, bind_ok, toS, e]
    rfl
theorem folded_ok (A : Ad) (s : Dr) {op : Str} {x : Int} {xs : List Int} {o : Out} (h : Fo2 A s op x xs o) : m_law_folded A [.str op, .lst ((x :: xs).map D.int)] s = .ok o.d s := by
  have ix : dIdx (.lst ((x :: xs).map D.int)) (.int 0) = some (.int x) := at0 _ _
  have cu : dCut (.lst ((x :: xs).map D.int)) (some 1) none = some (.lst (xs.map D.int)) := by
    simp only [dCut, List.map_cons, cut_tail]
  obtain ⟨y3, e⟩ := (h (.sh (.lst ((x :: xs).map D.int))) .no).1
  simp only [List.map_cons] at ix cu e
  simp only [m_law_folded, mb_law_folded, runF, mSeq, seqS, mAsg, mBin, mUn, mVar, mC, mRet, mNext, mIfS, mTest, mTruth, mAnd, mOr, mNot, mAndV, mOrV, mNotV, mCl, mCons, mNil, mCall, mDrop, mDrI, mDrNe, mDrIx, mDrLen, mDrSet, mDrPop, drL, isDr0, toS, fName, R.lift, bind_ok, bind_err, bind_bad, eAdd, eSub, eMul, eDiv, eMod, ePow, eNeg, eLt, eLe, eGt, eGe, eEqI, eNeI, eEqS, eEqB, eNeB, eIdxL, eIdxT, eBool, eAbs, Bool.false_eq_true, dList, dTup, if_true, if_false, if_pos, List.map_cons, List.map_nil, List.length_cons, List.length_nil, List.replicate, List.cons_append, List.nil_append, List.getElem?_cons_zero, List.getElem?_cons_succ, List.set_cons_zero, List.set_cons_succ, Nat.reduceAdd, Nat.reduceSub, Nat.reduceLeDiff, Nat.reduceLT, Nat.reduceMul, Int.reduceToNat, Int.reduceEq, Int.reduceAdd, Int.reduceSub, Int.reduceNeg, Bool.not_true, Bool.not_false, decide_true, decide_false, reduceIte, Nat.reduceEqDiff, ite_true, ite_false, mIf, mLst, mSlice, mPart, mNoPart, mItS, mItL, mItT, asSeq, asList, asTup, mFor, mPar, mPass, mBrk, mCnt, mRetN, cu, at0, e]
/-- what done gives -/
def Out.t : Out → D
  | .num v => .tup [.str "result", .int v]
  | .flt x => .tup [.str "fault", .str x]
theorem done_ok (A : Ad) (J : A.toCa.Inj) (he : Er.FaultError ∈ A.es) (s : Dr) {op : Str} {o : Out} {d : D} (h : m_fold A [.str op, d] s = o.r A s) : m_law_done A [.str op, d] s = .ok (Out.t o) s := by
  have t4 : A.toCa.tL (A.c .FaultError) = some true := Ca.tL_c J he
  cases o with
  | num v =>
    simp only [Out.r] at h
    simp only [m_law_done, mb_law_done, mTryAs, runF, mSeq, seqS, mAsg, mBin, mUn, mVar, mC, mRet, mNext, mIfS, mTest, mTruth, mAnd, mOr, mNot, mAndV, mOrV, mNotV, mCl, mCons, mNil, mCall, mDrop, mDrI, mDrNe, mDrIx, mDrLen, mDrSet, mDrPop, drL, isDr0, toS, fName, R.lift, bind_ok, bind_err, bind_bad, eAdd, eSub, eMul, eDiv, eMod, ePow, eNeg, eLt, eLe, eGt, eGe, eEqI, eNeI, eEqS, eEqB, eNeB, eIdxL, eIdxT, eBool, eAbs, Bool.false_eq_true, dList, dTup, if_true, if_false, if_pos, List.map_cons, List.map_nil, List.length_cons, List.length_nil, List.replicate, List.cons_append, List.nil_append, List.getElem?_cons_zero, List.getElem?_cons_succ, List.set_cons_zero, List.set_cons_succ, Nat.reduceAdd, Nat.reduceSub, Nat.reduceLeDiff, Nat.reduceLT, Nat.reduceMul, Int.reduceToNat, Int.reduceEq, Int.reduceAdd, Int.reduceSub, Int.reduceNeg, Bool.not_true, Bool.not_false, decide_true, decide_false, reduceIte, Nat.reduceEqDiff, ite_true, ite_false, mIf, mLst, mSlice, mPart, mNoPart, mItS, mItL, mItT, asSeq, asList, asTup, mFor, mPar, mPass, mBrk, mCnt, mRetN, h, Out.t]
  | flt x =>
    simp only [Out.r] at h
    have k := kind_fault A J he x s
    simp only [m_law_done, mb_law_done, mTryAs, clrS, mCallX, runF, mSeq, seqS, mAsg, mBin, mUn, mVar, mC, mRet, mNext, mIfS, mTest, mTruth, mAnd, mOr, mNot, mAndV, mOrV, mNotV, mCl, mCons, mNil, mCall, mDrop, mDrI, mDrNe, mDrIx, mDrLen, mDrSet, mDrPop, drL, isDr0, toS, fName, R.lift, bind_ok, bind_err, bind_bad, eAdd, eSub, eMul, eDiv, eMod, ePow, eNeg, eLt, eLe, eGt, eGe, eEqI, eNeI, eEqS, eEqB, eNeB, eIdxL, eIdxT, eBool, eAbs, Bool.false_eq_true, dList, dTup, if_true, if_false, if_pos, List.map_cons, List.map_nil, List.length_cons, List.length_nil, List.replicate, List.cons_append, List.nil_append, List.getElem?_cons_zero, List.getElem?_cons_succ, List.set_cons_zero, List.set_cons_succ, Nat.reduceAdd, Nat.reduceSub, Nat.reduceLeDiff, Nat.reduceLT, Nat.reduceMul, Int.reduceToNat, Int.reduceEq, Int.reduceAdd, Int.reduceSub, Int.reduceNeg, Bool.not_true, Bool.not_false, decide_true, decide_false, reduceIte, Nat.reduceEqDiff, ite_true, ite_false, mIf, mLst, mSlice, mPart, mNoPart, mItS, mItL, mItT, asSeq, asList, asTup, mFor, mPar, mPass, mBrk, mCnt, mRetN, h, t4, k, Out.t]
    rfl
theorem done_op (A : Ad) (J : A.toCa.Inj) (he : Er.OperatorError ∈ A.es) (s : Dr) {op : Str} {d : D} (h : m_fold A [.str op, d] s = .err (A.c .OperatorError) [("operator", .str op)] s) : m_law_done A [.str op, d] s = .ok (.tup [.str "operator", .str op]) s := by
  have t4 : A.toCa.tL (A.c .OperatorError) = some true := Ca.tL_c J he
  have k := kind_op A J he op s
  simp only [m_law_done, mb_law_done, mTryAs, clrS, mCallX, runF, mSeq, seqS, mAsg, mBin, mUn, mVar, mC, mRet, mNext, mIfS, mTest, mTruth, mAnd, mOr, mNot, mAndV, mOrV, mNotV, mCl, mCons, mNil, mCall, mDrop, mDrI, mDrNe, mDrIx, mDrLen, mDrSet, mDrPop, drL, isDr0, toS, fName, R.lift, bind_ok, bind_err, bind_bad, eAdd, eSub, eMul, eDiv, eMod, ePow, eNeg, eLt, eLe, eGt, eGe, eEqI, eNeI, eEqS, eEqB, eNeB, eIdxL, eIdxT, eBool, eAbs, Bool.false_eq_true, dList, dTup, if_true, if_false, if_pos, List.map_cons, List.map_nil, List.length_cons, List.length_nil, List.replicate, List.cons_append, List.nil_append, List.getElem?_cons_zero, List.getElem?_cons_succ, List.set_cons_zero, List.set_cons_succ, Nat.reduceAdd, Nat.reduceSub, Nat.reduceLeDiff, Nat.reduceLT, Nat.reduceMul, Int.reduceToNat, Int.reduceEq, Int.reduceAdd, Int.reduceSub, Int.reduceNeg, Bool.not_true, Bool.not_false, decide_true, decide_false, reduceIte, Nat.reduceEqDiff, ite_true, ite_false, mIf, mLst, mSlice, mPart, mNoPart, mItS, mItL, mItT, asSeq, asList, asTup, mFor, mPar, mPass, mBrk, mCnt, mRetN, h, t4, k]
  rfl
def Odd (x : Str) : Prop := x ∈ (["-", "//", "mod", "less", "equal", "", "sum"] : List Str)
theorem odd_ok {x : Str} (h : Odd x) : dNotIn (.str x) k_FOLDS = some (.bl true) ∧ dIn (.str x) (.tup [.str "+", .str "*", .str "min", .str "max"]) = some (.bl false) ∧ fmtD (.str x) = true := by
  unfold Odd at h
  simp only [List.mem_cons, List.not_mem_nil, or_false] at h
  rcases h with rfl | rfl | rfl | rfl | rfl | rfl | rfl <;> exact ⟨rfl, rfl, by decide +kernel⟩
theorem fold_odd (A : Ad) (s : Dr) {op : Str} (h : Odd op) (d : D) : m_fold A [.str op, d] s = .err (A.c .OperatorError) [("operator", .str op)] s := by
  obtain ⟨h1, _, h3⟩ := odd_ok h
  have ck := check_none A (s := s) h1 h3
  simp only [m_fold, mb_fold, runF, mSeq, seqS, mAsg, mBin, mUn, mVar, mC, mRet, mNext, mIfS, mTest, mTruth, mAnd, mOr, mNot, mAndV, mOrV, mNotV, mCl, mCons, mNil, mCall, mDrop, mDrI, mDrNe, mDrIx, mDrLen, mDrSet, mDrPop, drL, isDr0, toS, fName, R.lift, bind_ok, bind_err, bind_bad, eAdd, eSub, eMul, eDiv, eMod, ePow, eNeg, eLt, eLe, eGt, eGe, eEqI, eNeI, eEqS, eEqB, eNeB, eIdxL, eIdxT, eBool, eAbs, Bool.false_eq_true, dList, dTup, if_true, if_false, if_pos, List.map_cons, List.map_nil, List.length_cons, List.length_nil, List.replicate, List.cons_append, List.nil_append, List.getElem?_cons_zero, List.getElem?_cons_succ, List.set_cons_zero, List.set_cons_succ, Nat.reduceAdd, Nat.reduceSub, Nat.reduceLeDiff, Nat.reduceLT, Nat.reduceMul, Int.reduceToNat, Int.reduceEq, Int.reduceAdd, Int.reduceSub, Int.reduceNeg, Bool.not_true, Bool.not_false, decide_true, decide_false, reduceIte, Nat.reduceEqDiff, ite_true, ite_false, mIf, mLst, mSlice, mPart, mNoPart, mItS, mItL, mItT, asSeq, asList, asTup, mFor, mPar, mPass, mBrk, mCnt, mRetN, ck]
theorem sixty_ok (A : Ad) {b : Int} {s : Dr} (ok : Ok b s) (hb : b + 1 ≤ 1000000) : ∃ v s', m_law_sixty A [.ref A.d] s = .ok (.int v) s' ∧ -(10 ^ 60) < v ∧ v < 10 ^ 60 ∧ Ok (b + 1) s' := by
  obtain ⟨t, s1, e1, t0, t1, k1⟩ := take_ok A (n := 2) ok (by omega) (by decide) (by decide)
  have c29 : CPowG 10 29 := by decide
  have c30 : CPowG 10 30 := by decide
  have key : ∀ w : Int, w = 6 ∨ w = -6 → ∃ v, m_apply A [.str "*", .int (w * 10 ^ 29), .int (10 ^ 30)] s1 = .ok (.int v) s1 ∧ -(10 ^ 60) < v ∧ v < 10 ^ 60 := by
    intro w hw
    have e := apply_cap A (s := s1) in_2 tw_2 (fun z => by cases z) (ro_2 A (l := w * 10 ^ 29) (r := 10 ^ 30) (s := s1) (by rcases hw with rfl | rfl <;> decide) (by rcases hw with rfl | rfl <;> decide) (by decide) (by decide))
    have cp : capped (w * 10 ^ 29 * 10 ^ 30) = .num (w * 10 ^ 29 * 10 ^ 30) := by
      unfold capped av
      rcases hw with rfl | rfl <;> exact if_neg (by decide +kernel)
    rw [cp] at e
    exact ⟨_, e, capped_b cp⟩
  have m6 : CMulG 6 (10 ^ 29) := mulG (by decide) (by decide) (by decide) (by decide)
  have m6' : CMulG (-6) (10 ^ 29) := mulG (by decide) (by decide) (by decide) (by decide)
  have ht : t = 0 ∨ t = 1 := by omega
  rcases ht with rfl | rfl
  · obtain ⟨v, e, v0, v1⟩ := key 6 (.inl rfl)
    refine ⟨v, s1, ?_, v0, v1, k1⟩
    simp only [m_law_sixty, mb_law_sixty, runF, mSeq, seqS, mAsg, mBin, mUn, mVar, mC, mRet, mNext, mIfS, mTest, mTruth, mAnd, mOr, mNot, mAndV, mOrV, mNotV, mCl, mCons, mNil, mCall, mDrop, mDrI, mDrNe, mDrIx, mDrLen, mDrSet, mDrPop, drL, isDr0, toS, fName, R.lift, bind_ok, bind_err, bind_bad, eAdd, eSub, eMul, eDiv, eMod, ePow, eNeg, eLt, eLe, eGt, eGe, eEqI, eNeI, eEqS, eEqB, eNeB, eIdxL, eIdxT, eBool, eAbs, Bool.false_eq_true, dList, dTup, if_true, if_false, if_pos, List.map_cons, List.map_nil, List.length_cons, List.length_nil, List.replicate, List.cons_append, List.nil_append, List.getElem?_cons_zero, List.getElem?_cons_succ, List.set_cons_zero, List.set_cons_succ, Nat.reduceAdd, Nat.reduceSub, Nat.reduceLeDiff, Nat.reduceLT, Nat.reduceMul, Int.reduceToNat, Int.reduceEq, Int.reduceAdd, Int.reduceSub, Int.reduceNeg, Bool.not_true, Bool.not_false, decide_true, decide_false, reduceIte, Nat.reduceEqDiff, ite_true, ite_false, mIf, mLst, mSlice, mPart, mNoPart, mItS, mItL, mItT, asSeq, asList, asTup, mFor, mPar, mPass, mBrk, mCnt, mRetN, e1, at0, at1, c29, c30, m6, m6', e]
  · obtain ⟨v, e, v0, v1⟩ := key (-6) (.inr rfl)
    refine ⟨v, s1, ?_, v0, v1, k1⟩
    simp only [m_law_sixty, mb_law_sixty, runF, mSeq, seqS, mAsg, mBin, mUn, mVar, mC, mRet, mNext, mIfS, mTest, mTruth, mAnd, mOr, mNot, mAndV, mOrV, mNotV, mCl, mCons, mNil, mCall, mDrop, mDrI, mDrNe, mDrIx, mDrLen, mDrSet, mDrPop, drL, isDr0, toS, fName, R.lift, bind_ok, bind_err, bind_bad, eAdd, eSub, eMul, eDiv, eMod, ePow, eNeg, eLt, eLe, eGt, eGe, eEqI, eNeI, eEqS, eEqB, eNeB, eIdxL, eIdxT, eBool, eAbs, Bool.false_eq_true, dList, dTup, if_true, if_false, if_pos, List.map_cons, List.map_nil, List.length_cons, List.length_nil, List.replicate, List.cons_append, List.nil_append, List.getElem?_cons_zero, List.getElem?_cons_succ, List.set_cons_zero, List.set_cons_succ, Nat.reduceAdd, Nat.reduceSub, Nat.reduceLeDiff, Nat.reduceLT, Nat.reduceMul, Int.reduceToNat, Int.reduceEq, Int.reduceAdd, Int.reduceSub, Int.reduceNeg, Bool.not_true, Bool.not_false, decide_true, decide_false, reduceIte, Nat.reduceEqDiff, ite_true, ite_false, mIf, mLst, mSlice, mPart, mNoPart, mItS, mItL, mItT, asSeq, asList, asTup, mFor, mPar, mPass, mBrk, mCnt, mRetN, e1, at0, at1, c29, c30, m6, m6', e]

/-- numbers of a list within bounds -/
def Nums (xs : List Int) : Prop := 0 < xs.length ∧ xs.length ≤ 400 ∧ ∀ x ∈ xs, -(10 ^ 61) < x ∧ x < 10 ^ 61
abbrev Env (A : Ad) (x0 x2 x3 x4 x5 x6 x7 x8 x9 : Sl) : Ev := [x0, .sh (.ref A.d), x2, x3, x4, x5, x6, x7, x8, x9]
theorem lc0 (A : Ad) {x0 x2 x3 x4 x5 x6 x7 x8 x9 : Sl} {b : Int} {s : Dr} (ok : Ok b s) (hb : b + 50 ≤ 1000000) : ∃ xs s', lc_law_0 A (Env A x0 x2 x3 x4 x5 x6 x7 x8 x9) s = .ok (xs.map D.int) s' ∧ Nums xs ∧ Ok (b + 50) s' := by
  obtain ⟨t, s1, e1, t0, t1, k1⟩ := take_ok A (n := 3) ok (by omega) (by decide) (by decide)
  obtain ⟨y, ey, hy⟩ := atI_ok (xs := [D.int 2, .int 5, .int 12]) (i := t) t0 (by simpa using t1)
  have hy2 : ∃ r : Int, y = .int r ∧ 1 ≤ r ∧ r ≤ 12 := by
    simp only [List.mem_cons, List.not_mem_nil, or_false] at hy
    rcases hy with rfl | rfl | rfl <;> exact ⟨_, rfl, by decide, by decide⟩
  obtain ⟨n, rfl, n0, n1⟩ := hy2
  obtain ⟨u, s2, e2, u0, u1, k2⟩ := take_ok A (n := n) k1 (by omega) n0 (by omega)
  have hr : (1 + u ≤ 100000 ∧ -100000 ≤ 1 + u) := by omega
  have hlen : (rangeD 0 (1 + u).toNat).length = (1 + u).toNat := by simp [rangeD]
  obtain ⟨ys, s3, e3, l3, p3, k3⟩ := lcL_draw (A := A) (f := fName 9) (mt := mYes (O A)) (me := mCall (O A) 1 (m_law_great A) (mCons (O A) (mVar (O A) 1) (mNil (O A)))) (ρ := Env A x0 x2 x3 x4 x5 x6 x7 x8 .no) (fun d => ∃ i : Int, d = .int i ∧ (-(10 ^ 61) < i ∧ i < 10 ^ 61)) 4 (rangeD 0 (1 + u).toNat) [] (b + 1 + 1) s2
    (fun d b' s' _ k hb' => by
      obtain ⟨r, s'', e, r0, r1, k'⟩ := great_ok A k (by rw [hlen] at hb'; omega)
      refine ⟨_, .int r, s'', rfl, rfl, ?_, ⟨r, rfl, by omega⟩, k'⟩
      simp only [runF, mSeq, seqS, mAsg, mBin, mUn, mVar, mC, mRet, mNext, mIfS, mTest, mTruth, mAnd, mOr, mNot, mAndV, mOrV, mNotV, mCl, mCons, mNil, mCall, mDrop, mDrI, mDrNe, mDrIx, mDrLen, mDrSet, mDrPop, drL, isDr0, toS, fName, R.lift, bind_ok, bind_err, bind_bad, eAdd, eSub, eMul, eDiv, eMod, ePow, eNeg, eLt, eLe, eGt, eGe, eEqI, eNeI, eEqS, eEqB, eNeB, eIdxL, eIdxT, eBool, eAbs, Bool.false_eq_true, dList, dTup, if_true, if_false, if_pos, List.map_cons, List.map_nil, List.length_cons, List.length_nil, List.replicate, List.cons_append, List.nil_append, List.getElem?_cons_zero, List.getElem?_cons_succ, List.set_cons_zero, List.set_cons_succ, Nat.reduceAdd, Nat.reduceSub, Nat.reduceLeDiff, Nat.reduceLT, Nat.reduceMul, Int.reduceToNat, Int.reduceEq, Int.reduceAdd, Int.reduceSub, Int.reduceNeg, Bool.not_true, Bool.not_false, decide_true, decide_false, reduceIte, Nat.reduceEqDiff, ite_true, ite_false, mIf, mLst, mSlice, mPart, mNoPart, mItS, mItL, mItT, asSeq, asList, asTup, mFor, mPar, mPass, mBrk, mCnt, mRetN, e]) (by rw [hlen]; simp; omega) (by decide) k2 (fun d hd => absurd hd List.not_mem_nil)
  obtain ⟨xs, rfl, hx⟩ := ints_of p3
  rw [hlen] at k3 l3
  rw [List.length_map] at l3
  simp only [List.length_nil] at l3
  refine ⟨xs, s3, ?_, ⟨by omega, by omega, hx⟩, k3.mono (by omega)⟩
  simp only [lc_law_0, mLc, mRng1, wipeE, runF, mSeq, seqS, mAsg, mBin, mUn, mVar, mC, mRet, mNext, mIfS, mTest, mTruth, mAnd, mOr, mNot, mAndV, mOrV, mNotV, mCl, mCons, mNil, mCall, mDrop, mDrI, mDrNe, mDrIx, mDrLen, mDrSet, mDrPop, drL, isDr0, toS, fName, R.lift, bind_ok, bind_err, bind_bad, eAdd, eSub, eMul, eDiv, eMod, ePow, eNeg, eLt, eLe, eGt, eGe, eEqI, eNeI, eEqS, eEqB, eNeB, eIdxL, eIdxT, eBool, eAbs, Bool.false_eq_true, dList, dTup, if_true, if_false, if_pos, List.map_cons, List.map_nil, List.length_cons, List.length_nil, List.replicate, List.cons_append, List.nil_append, List.getElem?_cons_zero, List.getElem?_cons_succ, List.set_cons_zero, List.set_cons_succ, Nat.reduceAdd, Nat.reduceSub, Nat.reduceLeDiff, Nat.reduceLT, Nat.reduceMul, Int.reduceToNat, Int.reduceEq, Int.reduceAdd, Int.reduceSub, Int.reduceNeg, Bool.not_true, Bool.not_false, decide_true, decide_false, reduceIte, Nat.reduceEqDiff, ite_true, ite_false, mIf, mLst, mSlice, mPart, mNoPart, mItS, mItL, mItT, asSeq, asList, asTup, mFor, mPar, mPass, mBrk, mCnt, mRetN, e1, ey, e2, hr, and_self, e3]
theorem small_ok (A : Ad) {f : MI (O A)} {ρ : Ev} {n : Int} {c : Int} {N : Nat} {b : Int} {s : Dr} (hd : ρ[1]? = some (.sh (.ref A.d))) (hc : 1 ≤ c ∧ c ≤ 100) (hN : N ≤ 400) (ok : Ok b s) (hb : b + N ≤ 1000000) :
    ∃ xs : List Int, ∃ s', lcL (O A) (fName 9) (mYes (O A)) (mBin (O A) dSub (mCall (O A) 2 (m_law_take A) (mCons (O A) (mVar (O A) 1) (mCons (O A) (mC (O A) (.int c)) (mNil (O A))))) (mC (O A) (.int 2))) ρ (rangeD 0 N) [] s = .ok (xs.map D.int) s' ∧ xs.length = N ∧ (∀ x ∈ xs, -(10 ^ 61) < x ∧ x < 10 ^ 61) ∧ Ok (b + N) s' := by
  have hlen : (rangeD 0 N).length = N := by simp [rangeD]
  obtain ⟨ys, s3, e3, l3, p3, k3⟩ := lcL_draw (A := A) (f := fName 9) (mt := mYes (O A)) (me := mBin (O A) dSub (mCall (O A) 2 (m_law_take A) (mCons (O A) (mVar (O A) 1) (mCons (O A) (mC (O A) (.int c)) (mNil (O A))))) (mC (O A) (.int 2))) (ρ := ρ) (fun d => ∃ i : Int, d = .int i ∧ (-(10 ^ 61) < i ∧ i < 10 ^ 61)) 1 (rangeD 0 N) [] b s
    (fun d b' s' _ k hb' => by
      obtain ⟨r, s'', e, r0, r1, k'⟩ := take_ok A (n := c) k (by rw [hlen] at hb'; omega) hc.1 (by omega)
      have hd2 : (ρ.set 9 (.sh d))[1]? = some (.sh (.ref A.d)) := by rw [List.getElem?_set_ne (by decide)]; exact hd
      refine ⟨_, .int (r - 2), s'', rfl, rfl, ?_, ⟨_, rfl, by omega⟩, k'⟩
      simp only [runF, mSeq, seqS, mAsg, mBin, mUn, mVar, mC, mRet, mNext, mIfS, mTest, mTruth, mAnd, mOr, mNot, mAndV, mOrV, mNotV, mCl, mCons, mNil, mCall, mDrop, mDrI, mDrNe, mDrIx, mDrLen, mDrSet, mDrPop, drL, isDr0, toS, fName, R.lift, bind_ok, bind_err, bind_bad, eAdd, eSub, eMul, eDiv, eMod, ePow, eNeg, eLt, eLe, eGt, eGe, eEqI, eNeI, eEqS, eEqB, eNeB, eIdxL, eIdxT, eBool, eAbs, Bool.false_eq_true, dList, dTup, if_true, if_false, if_pos, List.map_cons, List.map_nil, List.length_cons, List.length_nil, List.replicate, List.cons_append, List.nil_append, List.getElem?_cons_zero, List.getElem?_cons_succ, List.set_cons_zero, List.set_cons_succ, Nat.reduceAdd, Nat.reduceSub, Nat.reduceLeDiff, Nat.reduceLT, Nat.reduceMul, Int.reduceToNat, Int.reduceEq, Int.reduceAdd, Int.reduceSub, Int.reduceNeg, Bool.not_true, Bool.not_false, decide_true, decide_false, reduceIte, Nat.reduceEqDiff, ite_true, ite_false, mIf, mLst, mSlice, mPart, mNoPart, mItS, mItL, mItT, asSeq, asList, asTup, mFor, mPar, mPass, mBrk, mCnt, mRetN, hd2, e]) (by rw [hlen]; simp; omega) (by decide) ok (fun d hd => absurd hd List.not_mem_nil)
  obtain ⟨xs, rfl, hx⟩ := ints_of p3
  rw [hlen] at k3 l3
  rw [List.length_map] at l3
  simp only [List.length_nil] at l3
  exact ⟨xs, s3, e3, by omega, hx, k3.mono (by omega)⟩
theorem lc1 (A : Ad) {x0 x2 x3 x4 x6 x7 x8 x9 : Sl} {xs : List Int} {b : Int} {s : Dr} (hx : Nums xs) (ok : Ok b s) (hb : b + 400 ≤ 1000000) : ∃ ys s', lc_law_1 A (Env A x0 x2 x3 x4 (.sh (.lst (xs.map D.int))) x6 x7 x8 x9) s = .ok (ys.map D.int) s' ∧ Nums ys ∧ Ok (b + 400) s' := by
  obtain ⟨h0, h1, h2⟩ := hx
  obtain ⟨ys, s', e, l, p, k⟩ := small_ok A (f := mRng1 (O A) (mNil (O A))) (n := 0) (ρ := Env A x0 x2 x3 x4 (.sh (.lst (xs.map D.int))) x6 x7 x8 .no) (c := 5) (N := xs.length) rfl (by decide) h1 ok (by omega)
  have hr : ((xs.length : Int) ≤ 100000 ∧ -100000 ≤ (xs.length : Int)) := by omega
  have ll : dLen [.lst (xs.map D.int)] = some (.int xs.length) := by simp only [dLen, List.length_map]
  refine ⟨ys, s', ?_, ⟨by omega, by omega, p⟩, k.mono (by omega)⟩
  simp only [lc_law_1, mLc, mRng1, wipeE, runF, mSeq, seqS, mAsg, mBin, mUn, mVar, mC, mRet, mNext, mIfS, mTest, mTruth, mAnd, mOr, mNot, mAndV, mOrV, mNotV, mCl, mCons, mNil, mCall, mDrop, mDrI, mDrNe, mDrIx, mDrLen, mDrSet, mDrPop, drL, isDr0, toS, fName, R.lift, bind_ok, bind_err, bind_bad, eAdd, eSub, eMul, eDiv, eMod, ePow, eNeg, eLt, eLe, eGt, eGe, eEqI, eNeI, eEqS, eEqB, eNeB, eIdxL, eIdxT, eBool, eAbs, Bool.false_eq_true, dList, dTup, if_true, if_false, if_pos, List.map_cons, List.map_nil, List.length_cons, List.length_nil, List.replicate, List.cons_append, List.nil_append, List.getElem?_cons_zero, List.getElem?_cons_succ, List.set_cons_zero, List.set_cons_succ, Nat.reduceAdd, Nat.reduceSub, Nat.reduceLeDiff, Nat.reduceLT, Nat.reduceMul, Int.reduceToNat, Int.reduceEq, Int.reduceAdd, Int.reduceSub, Int.reduceNeg, Bool.not_true, Bool.not_false, decide_true, decide_false, reduceIte, Nat.reduceEqDiff, ite_true, ite_false, mIf, mLst, mSlice, mPart, mNoPart, mItS, mItL, mItT, asSeq, asList, asTup, mFor, mPar, mPass, mBrk, mCnt, mRetN, ll, hr, and_self, Int.toNat_natCast, e]
theorem lc2 (A : Ad) {x0 x2 x3 x4 x5 x6 x7 x8 x9 : Sl} {b : Int} {s : Dr} (ok : Ok b s) (hb : b + 400 ≤ 1000000) : ∃ ys s', lc_law_2 A (Env A x0 x2 x3 x4 x5 x6 x7 x8 x9) s = .ok (ys.map D.int) s' ∧ Nums ys ∧ Ok (b + 400) s' := by
  obtain ⟨ys, s', e, l, p, k⟩ := small_ok A (f := mRng1 (O A) (mNil (O A))) (n := 0) (ρ := Env A x0 x2 x3 x4 x5 x6 x7 x8 .no) (c := 7) (N := 400) rfl (by decide) (by decide) ok (by omega)
  have hr : ((400 : Int) ≤ 100000 ∧ -100000 ≤ (400 : Int)) := by decide
  refine ⟨ys, s', ?_, ⟨by omega, by omega, p⟩, k.mono (by omega)⟩
  simp only [lc_law_2, mLc, mRng1, wipeE, runF, mSeq, seqS, mAsg, mBin, mUn, mVar, mC, mRet, mNext, mIfS, mTest, mTruth, mAnd, mOr, mNot, mAndV, mOrV, mNotV, mCl, mCons, mNil, mCall, mDrop, mDrI, mDrNe, mDrIx, mDrLen, mDrSet, mDrPop, drL, isDr0, toS, fName, R.lift, bind_ok, bind_err, bind_bad, eAdd, eSub, eMul, eDiv, eMod, ePow, eNeg, eLt, eLe, eGt, eGe, eEqI, eNeI, eEqS, eEqB, eNeB, eIdxL, eIdxT, eBool, eAbs, Bool.false_eq_true, dList, dTup, if_true, if_false, if_pos, List.map_cons, List.map_nil, List.length_cons, List.length_nil, List.replicate, List.cons_append, List.nil_append, List.getElem?_cons_zero, List.getElem?_cons_succ, List.set_cons_zero, List.set_cons_succ, Nat.reduceAdd, Nat.reduceSub, Nat.reduceLeDiff, Nat.reduceLT, Nat.reduceMul, Int.reduceToNat, Int.reduceEq, Int.reduceAdd, Int.reduceSub, Int.reduceNeg, Bool.not_true, Bool.not_false, decide_true, decide_false, reduceIte, Nat.reduceEqDiff, ite_true, ite_false, mIf, mLst, mSlice, mPart, mNoPart, mItS, mItL, mItT, asSeq, asList, asTup, mFor, mPar, mPass, mBrk, mCnt, mRetN, hr, and_self, e]
def ops13 : List D := [.str "+", .str "*", .str "min", .str "max", .str "+", .str "*", .str "-", .str "//", .str "mod", .str "less", .str "equal", .str "", .str "sum"]
theorem turn_ok (A : Ad) (J : A.toCa.Inj) (he : A.es = [.AxisError, .OperatorError, .FaultError]) {x0 x2 x3 x4 x5 x6 x7 x8 x9 : Sl} {b : Int} {s : Dr} (ok : Ok b s) (hb : b + 1000 ≤ 1000000) :
    Nx (fun ρ' s' => (∃ y2 y3 y4 y5 y6 y7 y8 y9, ρ' = Env A x0 y2 y3 y4 y5 y6 y7 y8 y9) ∧ Ok (b + 1000) s') (bd_law_3 A (Env A x0 x2 x3 x4 x5 x6 x7 x8 x9) s) := by
  have heo : Er.OperatorError ∈ A.es := by rw [he]; simp
  have hef : Er.FaultError ∈ A.es := by rw [he]; simp
  unfold bd_law_3
  -- the operator
  refine nx_seq (fun ρ' s' => ρ' = Env A x0 x2 (.sh (.lst ops13)) x4 x5 x6 x7 x8 x9 ∧ s = s') (nx_of (by simp only [runF, mSeq, seqS, mAsg, mBin, mUn, mVar, mC, mRet, mNext, mIfS, mTest, mTruth, mAnd, mOr, mNot, mAndV, mOrV, mNotV, mCl, mCons, mNil, mCall, mDrop, mDrI, mDrNe, mDrIx, mDrLen, mDrSet, mDrPop, drL, isDr0, toS, fName, R.lift, bind_ok, bind_err, bind_bad, eAdd, eSub, eMul, eDiv, eMod, ePow, eNeg, eLt, eLe, eGt, eGe, eEqI, eNeI, eEqS, eEqB, eNeB, eIdxL, eIdxT, eBool, eAbs, Bool.false_eq_true, dList, dTup, if_true, if_false, if_pos, List.map_cons, List.map_nil, List.length_cons, List.length_nil, List.replicate, List.cons_append, List.nil_append, List.getElem?_cons_zero, List.getElem?_cons_succ, List.set_cons_zero, List.set_cons_succ, Nat.reduceAdd, Nat.reduceSub, Nat.reduceLeDiff, Nat.reduceLT, Nat.reduceMul, Int.reduceToNat, Int.reduceEq, Int.reduceAdd, Int.reduceSub, Int.reduceNeg, Bool.not_true, Bool.not_false, decide_true, decide_false, reduceIte, Nat.reduceEqDiff, ite_true, ite_false, mIf, mLst, mSlice, mPart, mNoPart, mItS, mItL, mItT, asSeq, asList, asTup, mFor, mPar, mPass, mBrk, mCnt, mRetN] <;> rfl) ⟨rfl, rfl⟩) ?_
  rintro _ _ ⟨rfl, rfl⟩
  refine nx_seq (fun ρ' s' => ∃ op, (Fld op ∨ Odd op) ∧ ρ' = Env A x0 x2 (.sh (.lst ops13)) (.sh (.str op)) x5 x6 x7 x8 x9 ∧ Ok (b + 1) s') ?_ ?_
  · obtain ⟨t, s1, e1, t0, t1, k1⟩ := take_ok A (n := 13) ok (by omega) (by decide) (by decide)
    obtain ⟨y, ey, hy⟩ := atI_ok (xs := ops13) (i := t) t0 (by simpa [ops13] using t1)
    have hy2 : ∃ op, y = .str op ∧ (Fld op ∨ Odd op) := by
      unfold ops13 at hy
      simp only [List.mem_cons, List.not_mem_nil, or_false] at hy
      unfold Fld Odd
      rcases hy with rfl | rfl | rfl | rfl | rfl | rfl | rfl | rfl | rfl | rfl | rfl | rfl | rfl <;> exact ⟨_, rfl, by simp⟩
    obtain ⟨op, rfl, ho⟩ := hy2
    exact nx_of (by simp only [runF, mSeq, seqS, mAsg, mBin, mUn, mVar, mC, mRet, mNext, mIfS, mTest, mTruth, mAnd, mOr, mNot, mAndV, mOrV, mNotV, mCl, mCons, mNil, mCall, mDrop, mDrI, mDrNe, mDrIx, mDrLen, mDrSet, mDrPop, drL, isDr0, toS, fName, R.lift, bind_ok, bind_err, bind_bad, eAdd, eSub, eMul, eDiv, eMod, ePow, eNeg, eLt, eLe, eGt, eGe, eEqI, eNeI, eEqS, eEqB, eNeB, eIdxL, eIdxT, eBool, eAbs, Bool.false_eq_true, dList, dTup, if_true, if_false, if_pos, List.map_cons, List.map_nil, List.length_cons, List.length_nil, List.replicate, List.cons_append, List.nil_append, List.getElem?_cons_zero, List.getElem?_cons_succ, List.set_cons_zero, List.set_cons_succ, Nat.reduceAdd, Nat.reduceSub, Nat.reduceLeDiff, Nat.reduceLT, Nat.reduceMul, Int.reduceToNat, Int.reduceEq, Int.reduceAdd, Int.reduceSub, Int.reduceNeg, Bool.not_true, Bool.not_false, decide_true, decide_false, reduceIte, Nat.reduceEqDiff, ite_true, ite_false, mIf, mLst, mSlice, mPart, mNoPart, mItS, mItL, mItT, asSeq, asList, asTup, mFor, mPar, mPass, mBrk, mCnt, mRetN, e1, ey] <;> rfl) ⟨op, ho, rfl, k1⟩
  rintro _ s ⟨op, ho, rfl, ok⟩
  -- the numbers
  refine nx_seq (fun ρ' s' => ∃ xs y9, Nums xs ∧ ρ' = Env A x0 x2 (.sh (.lst ops13)) (.sh (.str op)) (.sh (.lst (xs.map D.int))) x6 x7 x8 y9 ∧ Ok (b + 51) s') ?_ ?_
  · obtain ⟨xs, s', e, hx, k⟩ := lc0 A (x0 := x0) (x2 := x2) (x3 := .sh (.lst ops13)) (x4 := .sh (.str op)) (x5 := x5) (x6 := x6) (x7 := x7) (x8 := x8) (x9 := x9) ok (by omega)
    exact nx_of (by simp only [runF, mSeq, seqS, mAsg, mBin, mUn, mVar, mC, mRet, mNext, mIfS, mTest, mTruth, mAnd, mOr, mNot, mAndV, mOrV, mNotV, mCl, mCons, mNil, mCall, mDrop, mDrI, mDrNe, mDrIx, mDrLen, mDrSet, mDrPop, drL, isDr0, toS, fName, R.lift, bind_ok, bind_err, bind_bad, eAdd, eSub, eMul, eDiv, eMod, ePow, eNeg, eLt, eLe, eGt, eGe, eEqI, eNeI, eEqS, eEqB, eNeB, eIdxL, eIdxT, eBool, eAbs, Bool.false_eq_true, dList, dTup, if_true, if_false, if_pos, List.map_cons, List.map_nil, List.length_cons, List.length_nil, List.replicate, List.cons_append, List.nil_append, List.getElem?_cons_zero, List.getElem?_cons_succ, List.set_cons_zero, List.set_cons_succ, Nat.reduceAdd, Nat.reduceSub, Nat.reduceLeDiff, Nat.reduceLT, Nat.reduceMul, Int.reduceToNat, Int.reduceEq, Int.reduceAdd, Int.reduceSub, Int.reduceNeg, Bool.not_true, Bool.not_false, decide_true, decide_false, reduceIte, Nat.reduceEqDiff, ite_true, ite_false, mIf, mLst, mSlice, mPart, mNoPart, mItS, mItL, mItT, asSeq, asList, asTup, mFor, mPar, mPass, mBrk, mCnt, mRetN, e] <;> rfl) ⟨xs, x9, hx, rfl, k.mono (by omega)⟩
  rintro _ s ⟨xs, y9, hx, rfl, ok⟩
  refine nx_seq (fun ρ' s' => ∃ xs y9, Nums xs ∧ ρ' = Env A x0 x2 (.sh (.lst ops13)) (.sh (.str op)) (.sh (.lst (xs.map D.int))) x6 x7 x8 y9 ∧ Ok (b + 452) s') ?_ ?_
  · obtain ⟨t, s1, e1, t0, t1, k1⟩ := take_ok A (n := 3) ok (by omega) (by decide) (by decide)
    by_cases hop : op = "*"
    · refine nx_if (k := decide (t = 0)) (s1 := s1) (by simp only [runF, mSeq, seqS, mAsg, mBin, mUn, mVar, mC, mRet, mNext, mIfS, mTest, mTruth, mAnd, mOr, mNot, mAndV, mOrV, mNotV, mCl, mCons, mNil, mCall, mDrop, mDrI, mDrNe, mDrIx, mDrLen, mDrSet, mDrPop, drL, isDr0, toS, fName, R.lift, bind_ok, bind_err, bind_bad, eAdd, eSub, eMul, eDiv, eMod, ePow, eNeg, eLt, eLe, eGt, eGe, eEqI, eNeI, eEqS, eEqB, eNeB, eIdxL, eIdxT, eBool, eAbs, Bool.false_eq_true, dList, dTup, if_true, if_false, if_pos, List.map_cons, List.map_nil, List.length_cons, List.length_nil, List.replicate, List.cons_append, List.nil_append, List.getElem?_cons_zero, List.getElem?_cons_succ, List.set_cons_zero, List.set_cons_succ, Nat.reduceAdd, Nat.reduceSub, Nat.reduceLeDiff, Nat.reduceLT, Nat.reduceMul, Int.reduceToNat, Int.reduceEq, Int.reduceAdd, Int.reduceSub, Int.reduceNeg, Bool.not_true, Bool.not_false, decide_true, decide_false, reduceIte, Nat.reduceEqDiff, ite_true, ite_false, mIf, mLst, mSlice, mPart, mNoPart, mItS, mItL, mItT, asSeq, asList, asTup, mFor, mPar, mPass, mBrk, mCnt, mRetN, hop, e1]) (fun hk => ?_) (fun hk => nx_next ⟨xs, y9, hx, rfl, k1.mono (by omega)⟩)
      obtain ⟨ys, s', e, hy, k⟩ := lc1 A (x0 := x0) (x2 := x2) (x3 := .sh (.lst ops13)) (x4 := .sh (.str op)) (x6 := x6) (x7 := x7) (x8 := x8) (x9 := y9) hx k1 (by omega)
      exact nx_of (by simp only [runF, mSeq, seqS, mAsg, mBin, mUn, mVar, mC, mRet, mNext, mIfS, mTest, mTruth, mAnd, mOr, mNot, mAndV, mOrV, mNotV, mCl, mCons, mNil, mCall, mDrop, mDrI, mDrNe, mDrIx, mDrLen, mDrSet, mDrPop, drL, isDr0, toS, fName, R.lift, bind_ok, bind_err, bind_bad, eAdd, eSub, eMul, eDiv, eMod, ePow, eNeg, eLt, eLe, eGt, eGe, eEqI, eNeI, eEqS, eEqB, eNeB, eIdxL, eIdxT, eBool, eAbs, Bool.false_eq_true, dList, dTup, if_true, if_false, if_pos, List.map_cons, List.map_nil, List.length_cons, List.length_nil, List.replicate, List.cons_append, List.nil_append, List.getElem?_cons_zero, List.getElem?_cons_succ, List.set_cons_zero, List.set_cons_succ, Nat.reduceAdd, Nat.reduceSub, Nat.reduceLeDiff, Nat.reduceLT, Nat.reduceMul, Int.reduceToNat, Int.reduceEq, Int.reduceAdd, Int.reduceSub, Int.reduceNeg, Bool.not_true, Bool.not_false, decide_true, decide_false, reduceIte, Nat.reduceEqDiff, ite_true, ite_false, mIf, mLst, mSlice, mPart, mNoPart, mItS, mItL, mItT, asSeq, asList, asTup, mFor, mPar, mPass, mBrk, mCnt, mRetN, e] <;> rfl) ⟨ys, y9, hy, rfl, k.mono (by omega)⟩
    · refine nx_if (k := false) (s1 := s) (by simp only [runF, mSeq, seqS, mAsg, mBin, mUn, mVar, mC, mRet, mNext, mIfS, mTest, mTruth, mAnd, mOr, mNot, mAndV, mOrV, mNotV, mCl, mCons, mNil, mCall, mDrop, mDrI, mDrNe, mDrIx, mDrLen, mDrSet, mDrPop, drL, isDr0, toS, fName, R.lift, bind_ok, bind_err, bind_bad, eAdd, eSub, eMul, eDiv, eMod, ePow, eNeg, eLt, eLe, eGt, eGe, eEqI, eNeI, eEqS, eEqB, eNeB, eIdxL, eIdxT, eBool, eAbs, Bool.false_eq_true, dList, dTup, if_true, if_false, if_pos, List.map_cons, List.map_nil, List.length_cons, List.length_nil, List.replicate, List.cons_append, List.nil_append, List.getElem?_cons_zero, List.getElem?_cons_succ, List.set_cons_zero, List.set_cons_succ, Nat.reduceAdd, Nat.reduceSub, Nat.reduceLeDiff, Nat.reduceLT, Nat.reduceMul, Int.reduceToNat, Int.reduceEq, Int.reduceAdd, Int.reduceSub, Int.reduceNeg, Bool.not_true, Bool.not_false, decide_true, decide_false, reduceIte, Nat.reduceEqDiff, ite_true, ite_false, mIf, mLst, mSlice, mPart, mNoPart, mItS, mItL, mItT, asSeq, asList, asTup, mFor, mPar, mPass, mBrk, mCnt, mRetN, decide_eq_false hop]) (fun hk => by cases hk) (fun hk => nx_next ⟨xs, y9, hx, rfl, ok.mono (by omega)⟩)
  clear hx
  rintro _ s ⟨xs, y9, hx, rfl, ok⟩
  refine nx_seq (fun ρ' s' => ∃ xs y9, Nums xs ∧ ρ' = Env A x0 x2 (.sh (.lst ops13)) (.sh (.str op)) (.sh (.lst (xs.map D.int))) x6 x7 x8 y9 ∧ Ok (b + 460) s') ?_ ?_
  · obtain ⟨t, s1, e1, t0, t1, k1⟩ := take_ok A (n := 3) ok (by omega) (by decide) (by decide)
    refine nx_if (k := decide (t = 0)) (s1 := s1) (by simp only [runF, mSeq, seqS, mAsg, mBin, mUn, mVar, mC, mRet, mNext, mIfS, mTest, mTruth, mAnd, mOr, mNot, mAndV, mOrV, mNotV, mCl, mCons, mNil, mCall, mDrop, mDrI, mDrNe, mDrIx, mDrLen, mDrSet, mDrPop, drL, isDr0, toS, fName, R.lift, bind_ok, bind_err, bind_bad, eAdd, eSub, eMul, eDiv, eMod, ePow, eNeg, eLt, eLe, eGt, eGe, eEqI, eNeI, eEqS, eEqB, eNeB, eIdxL, eIdxT, eBool, eAbs, Bool.false_eq_true, dList, dTup, if_true, if_false, if_pos, List.map_cons, List.map_nil, List.length_cons, List.length_nil, List.replicate, List.cons_append, List.nil_append, List.getElem?_cons_zero, List.getElem?_cons_succ, List.set_cons_zero, List.set_cons_succ, Nat.reduceAdd, Nat.reduceSub, Nat.reduceLeDiff, Nat.reduceLT, Nat.reduceMul, Int.reduceToNat, Int.reduceEq, Int.reduceAdd, Int.reduceSub, Int.reduceNeg, Bool.not_true, Bool.not_false, decide_true, decide_false, reduceIte, Nat.reduceEqDiff, ite_true, ite_false, mIf, mLst, mSlice, mPart, mNoPart, mItS, mItL, mItT, asSeq, asList, asTup, mFor, mPar, mPass, mBrk, mCnt, mRetN, e1]) (fun hk => ?_) (fun hk => nx_next ⟨xs, y9, hx, rfl, k1.mono (by omega)⟩)
    obtain ⟨v, s2, e2, v0, v1, k2⟩ := sixty_ok A k1 (by omega)
    obtain ⟨u, s3, e3, u0, u1, k3⟩ := sixty_ok A k2 (by omega)
    have cu : dCut (.lst (xs.map D.int)) none (some 2) = some (.lst ((xs.take 2).map D.int)) := by
      have := cut_take (xs.map D.int) 2
      simp only [dCut]
      rw [show (some (2 : Int)) = some ((2 : Nat) : Int) from rfl, this, List.map_take]
    have ad : dAdd (.lst ((xs.take 2).map D.int)) (.lst [.int v, .int u]) = some (.lst ((xs.take 2 ++ [v, u]).map D.int)) := by
      simp only [dAdd]
      rw [if_pos (by simp; omega), List.map_append]
      rfl
    refine nx_of (by simp only [runF, mSeq, seqS, mAsg, mBin, mUn, mVar, mC, mRet, mNext, mIfS, mTest, mTruth, mAnd, mOr, mNot, mAndV, mOrV, mNotV, mCl, mCons, mNil, mCall, mDrop, mDrI, mDrNe, mDrIx, mDrLen, mDrSet, mDrPop, drL, isDr0, toS, fName, R.lift, bind_ok, bind_err, bind_bad, eAdd, eSub, eMul, eDiv, eMod, ePow, eNeg, eLt, eLe, eGt, eGe, eEqI, eNeI, eEqS, eEqB, eNeB, eIdxL, eIdxT, eBool, eAbs, Bool.false_eq_true, dList, dTup, if_true, if_false, if_pos, List.map_cons, List.map_nil, List.length_cons, List.length_nil, List.replicate, List.cons_append, List.nil_append, List.getElem?_cons_zero, List.getElem?_cons_succ, List.set_cons_zero, List.set_cons_succ, Nat.reduceAdd, Nat.reduceSub, Nat.reduceLeDiff, Nat.reduceLT, Nat.reduceMul, Int.reduceToNat, Int.reduceEq, Int.reduceAdd, Int.reduceSub, Int.reduceNeg, Bool.not_true, Bool.not_false, decide_true, decide_false, reduceIte, Nat.reduceEqDiff, ite_true, ite_false, mIf, mLst, mSlice, mPart, mNoPart, mItS, mItL, mItT, asSeq, asList, asTup, mFor, mPar, mPass, mBrk, mCnt, mRetN, cu, e2, e3, ad] <;> rfl) ⟨xs.take 2 ++ [v, u], y9, ⟨by simp, by simp; omega, fun x hx' => ?_⟩, rfl, k3.mono (by omega)⟩
    rw [List.mem_append] at hx'
    rcases hx' with q | q
    · exact hx.2.2 x (List.mem_of_mem_take q)
    · simp only [List.mem_cons, List.not_mem_nil, or_false] at q
      rcases q with rfl | rfl <;> omega
  clear hx
  rintro _ s ⟨xs, y9, hx, rfl, ok⟩
  refine nx_seq (fun ρ' s' => ∃ xs y9, Nums xs ∧ ρ' = Env A x0 x2 (.sh (.lst ops13)) (.sh (.str op)) (.sh (.lst (xs.map D.int))) x6 x7 x8 y9 ∧ Ok (b + 900) s') ?_ ?_
  · obtain ⟨t, s1, e1, t0, t1, k1⟩ := take_ok A (n := 16) ok (by omega) (by decide) (by decide)
    refine nx_if (k := decide (t = 0)) (s1 := s1) (by simp only [runF, mSeq, seqS, mAsg, mBin, mUn, mVar, mC, mRet, mNext, mIfS, mTest, mTruth, mAnd, mOr, mNot, mAndV, mOrV, mNotV, mCl, mCons, mNil, mCall, mDrop, mDrI, mDrNe, mDrIx, mDrLen, mDrSet, mDrPop, drL, isDr0, toS, fName, R.lift, bind_ok, bind_err, bind_bad, eAdd, eSub, eMul, eDiv, eMod, ePow, eNeg, eLt, eLe, eGt, eGe, eEqI, eNeI, eEqS, eEqB, eNeB, eIdxL, eIdxT, eBool, eAbs, Bool.false_eq_true, dList, dTup, if_true, if_false, if_pos, List.map_cons, List.map_nil, List.length_cons, List.length_nil, List.replicate, List.cons_append, List.nil_append, List.getElem?_cons_zero, List.getElem?_cons_succ, List.set_cons_zero, List.set_cons_succ, Nat.reduceAdd, Nat.reduceSub, Nat.reduceLeDiff, Nat.reduceLT, Nat.reduceMul, Int.reduceToNat, Int.reduceEq, Int.reduceAdd, Int.reduceSub, Int.reduceNeg, Bool.not_true, Bool.not_false, decide_true, decide_false, reduceIte, Nat.reduceEqDiff, ite_true, ite_false, mIf, mLst, mSlice, mPart, mNoPart, mItS, mItL, mItT, asSeq, asList, asTup, mFor, mPar, mPass, mBrk, mCnt, mRetN, e1]) (fun hk => ?_) (fun hk => nx_next ⟨xs, y9, hx, rfl, k1.mono (by omega)⟩)
    obtain ⟨ys, s', e, hy, k⟩ := lc2 A (x0 := x0) (x2 := x2) (x3 := .sh (.lst ops13)) (x4 := .sh (.str op)) (x5 := .sh (.lst (xs.map D.int))) (x6 := x6) (x7 := x7) (x8 := x8) (x9 := y9) k1 (by omega)
    exact nx_of (by simp only [runF, mSeq, seqS, mAsg, mBin, mUn, mVar, mC, mRet, mNext, mIfS, mTest, mTruth, mAnd, mOr, mNot, mAndV, mOrV, mNotV, mCl, mCons, mNil, mCall, mDrop, mDrI, mDrNe, mDrIx, mDrLen, mDrSet, mDrPop, drL, isDr0, toS, fName, R.lift, bind_ok, bind_err, bind_bad, eAdd, eSub, eMul, eDiv, eMod, ePow, eNeg, eLt, eLe, eGt, eGe, eEqI, eNeI, eEqS, eEqB, eNeB, eIdxL, eIdxT, eBool, eAbs, Bool.false_eq_true, dList, dTup, if_true, if_false, if_pos, List.map_cons, List.map_nil, List.length_cons, List.length_nil, List.replicate, List.cons_append, List.nil_append, List.getElem?_cons_zero, List.getElem?_cons_succ, List.set_cons_zero, List.set_cons_succ, Nat.reduceAdd, Nat.reduceSub, Nat.reduceLeDiff, Nat.reduceLT, Nat.reduceMul, Int.reduceToNat, Int.reduceEq, Int.reduceAdd, Int.reduceSub, Int.reduceNeg, Bool.not_true, Bool.not_false, decide_true, decide_false, reduceIte, Nat.reduceEqDiff, ite_true, ite_false, mIf, mLst, mSlice, mPart, mNoPart, mItS, mItL, mItT, asSeq, asList, asTup, mFor, mPar, mPass, mBrk, mCnt, mRetN, e] <;> rfl) ⟨ys, y9, hy, rfl, k.mono (by omega)⟩
  clear hx
  rintro _ s ⟨xs, y9, hx, rfl, ok⟩
  -- what is due, what is done
  obtain ⟨h0, h1, h2⟩ := hx
  obtain ⟨x, xs, rfl⟩ : ∃ y ys, xs = y :: ys := by cases xs with | nil => simp at h0 | cons y ys => exact ⟨y, ys, rfl⟩
  have lof : dListOf [.lst ((x :: xs).map D.int)] = some (.lst ((x :: xs).map D.int)) := rfl
  have tof : dTupOf [.lst ((x :: xs).map D.int)] = some (.tup ((x :: xs).map D.int)) := rfl
  have ne := (eq_self (n := 1) (pq_lst (n := 0) (x :: xs)) (by decide)).2
  refine nx_seq (fun ρ' s' => ρ' = Env A x0 x2 (.sh (.lst ops13)) (.sh (.str op)) (.sh (.lst ((x :: xs).map D.int))) (.sh (.tup [.str "operator", .str op])) x7 x8 y9 ∧ s = s') (nx_of (by simp only [runF, mSeq, seqS, mAsg, mBin, mUn, mVar, mC, mRet, mNext, mIfS, mTest, mTruth, mAnd, mOr, mNot, mAndV, mOrV, mNotV, mCl, mCons, mNil, mCall, mDrop, mDrI, mDrNe, mDrIx, mDrLen, mDrSet, mDrPop, drL, isDr0, toS, fName, R.lift, bind_ok, bind_err, bind_bad, eAdd, eSub, eMul, eDiv, eMod, ePow, eNeg, eLt, eLe, eGt, eGe, eEqI, eNeI, eEqS, eEqB, eNeB, eIdxL, eIdxT, eBool, eAbs, Bool.false_eq_true, dList, dTup, if_true, if_false, if_pos, List.map_cons, List.map_nil, List.length_cons, List.length_nil, List.replicate, List.cons_append, List.nil_append, List.getElem?_cons_zero, List.getElem?_cons_succ, List.set_cons_zero, List.set_cons_succ, Nat.reduceAdd, Nat.reduceSub, Nat.reduceLeDiff, Nat.reduceLT, Nat.reduceMul, Int.reduceToNat, Int.reduceEq, Int.reduceAdd, Int.reduceSub, Int.reduceNeg, Bool.not_true, Bool.not_false, decide_true, decide_false, reduceIte, Nat.reduceEqDiff, ite_true, ite_false, mIf, mLst, mSlice, mPart, mNoPart, mItS, mItL, mItT, asSeq, asList, asTup, mFor, mPar, mPass, mBrk, mCnt, mRetN] <;> rfl) ⟨rfl, rfl⟩) ?_
  rintro _ _ ⟨rfl, rfl⟩
  refine nx_seq (fun ρ' s' => ∃ due y7, plD 3 due = true ∧ (m_law_done A [.str op, .lst ((x :: xs).map D.int)] s = .ok due s) ∧ (m_law_done A [.str op, .tup ((x :: xs).map D.int)] s = .ok due s) ∧ ρ' = Env A x0 x2 (.sh (.lst ops13)) (.sh (.str op)) (.sh (.lst ((x :: xs).map D.int))) (.sh due) y7 x8 y9 ∧ s = s') ?_ ?_
  · rcases ho with ho | ho
    · obtain ⟨o, h⟩ := fold_both A s ho xs x h2
      have f1 := done_ok A J hef s (fold_ok A s ho (.inl rfl) h)
      have f2 := done_ok A J hef s (fold_ok A s ho (.inr rfl) h)
      have f3 := folded_ok A s h
      simp only [List.map_cons] at f3
      refine nx_if (k := true) (s1 := s) (by simp only [runF, mSeq, seqS, mAsg, mBin, mUn, mVar, mC, mRet, mNext, mIfS, mTest, mTruth, mAnd, mOr, mNot, mAndV, mOrV, mNotV, mCl, mCons, mNil, mCall, mDrop, mDrI, mDrNe, mDrIx, mDrLen, mDrSet, mDrPop, drL, isDr0, toS, fName, R.lift, bind_ok, bind_err, bind_bad, eAdd, eSub, eMul, eDiv, eMod, ePow, eNeg, eLt, eLe, eGt, eGe, eEqI, eNeI, eEqS, eEqB, eNeB, eIdxL, eIdxT, eBool, eAbs, Bool.false_eq_true, dList, dTup, if_true, if_false, if_pos, List.map_cons, List.map_nil, List.length_cons, List.length_nil, List.replicate, List.cons_append, List.nil_append, List.getElem?_cons_zero, List.getElem?_cons_succ, List.set_cons_zero, List.set_cons_succ, Nat.reduceAdd, Nat.reduceSub, Nat.reduceLeDiff, Nat.reduceLT, Nat.reduceMul, Int.reduceToNat, Int.reduceEq, Int.reduceAdd, Int.reduceSub, Int.reduceNeg, Bool.not_true, Bool.not_false, decide_true, decide_false, reduceIte, Nat.reduceEqDiff, ite_true, ite_false, mIf, mLst, mSlice, mPart, mNoPart, mItS, mItL, mItT, asSeq, asList, asTup, mFor, mPar, mPass, mBrk, mCnt, mRetN, (in_folds ho).2]) (fun _ => ?_) (fun hk => by cases hk)
      cases o with
      | num w =>
        have t1 : dIsI [.int w, .ty "int"] = some (.bl true) := rfl
        simp only [Out.d] at f3
        exact nx_of (by simp only [runF, mSeq, seqS, mAsg, mBin, mUn, mVar, mC, mRet, mNext, mIfS, mTest, mTruth, mAnd, mOr, mNot, mAndV, mOrV, mNotV, mCl, mCons, mNil, mCall, mDrop, mDrI, mDrNe, mDrIx, mDrLen, mDrSet, mDrPop, drL, isDr0, toS, fName, R.lift, bind_ok, bind_err, bind_bad, eAdd, eSub, eMul, eDiv, eMod, ePow, eNeg, eLt, eLe, eGt, eGe, eEqI, eNeI, eEqS, eEqB, eNeB, eIdxL, eIdxT, eBool, eAbs, Bool.false_eq_true, dList, dTup, if_true, if_false, if_pos, List.map_cons, List.map_nil, List.length_cons, List.length_nil, List.replicate, List.cons_append, List.nil_append, List.getElem?_cons_zero, List.getElem?_cons_succ, List.set_cons_zero, List.set_cons_succ, Nat.reduceAdd, Nat.reduceSub, Nat.reduceLeDiff, Nat.reduceLT, Nat.reduceMul, Int.reduceToNat, Int.reduceEq, Int.reduceAdd, Int.reduceSub, Int.reduceNeg, Bool.not_true, Bool.not_false, decide_true, decide_false, reduceIte, Nat.reduceEqDiff, ite_true, ite_false, mIf, mLst, mSlice, mPart, mNoPart, mItS, mItL, mItT, asSeq, asList, asTup, mFor, mPar, mPass, mBrk, mCnt, mRetN, f3, t1, dTruth] <;> rfl) ⟨_, _, rfl, f1, f2, rfl, rfl⟩
      | flt t =>
        have t1 : dIsI [.str t, .ty "int"] = some (.bl false) := rfl
        simp only [Out.d] at f3
        exact nx_of (by simp only [runF, mSeq, seqS, mAsg, mBin, mUn, mVar, mC, mRet, mNext, mIfS, mTest, mTruth, mAnd, mOr, mNot, mAndV, mOrV, mNotV, mCl, mCons, mNil, mCall, mDrop, mDrI, mDrNe, mDrIx, mDrLen, mDrSet, mDrPop, drL, isDr0, toS, fName, R.lift, bind_ok, bind_err, bind_bad, eAdd, eSub, eMul, eDiv, eMod, ePow, eNeg, eLt, eLe, eGt, eGe, eEqI, eNeI, eEqS, eEqB, eNeB, eIdxL, eIdxT, eBool, eAbs, Bool.false_eq_true, dList, dTup, if_true, if_false, if_pos, List.map_cons, List.map_nil, List.length_cons, List.length_nil, List.replicate, List.cons_append, List.nil_append, List.getElem?_cons_zero, List.getElem?_cons_succ, List.set_cons_zero, List.set_cons_succ, Nat.reduceAdd, Nat.reduceSub, Nat.reduceLeDiff, Nat.reduceLT, Nat.reduceMul, Int.reduceToNat, Int.reduceEq, Int.reduceAdd, Int.reduceSub, Int.reduceNeg, Bool.not_true, Bool.not_false, decide_true, decide_false, reduceIte, Nat.reduceEqDiff, ite_true, ite_false, mIf, mLst, mSlice, mPart, mNoPart, mItS, mItL, mItT, asSeq, asList, asTup, mFor, mPar, mPass, mBrk, mCnt, mRetN, f3, t1, dTruth] <;> rfl) ⟨_, _, rfl, f1, f2, rfl, rfl⟩
    · have f1 := done_op A J heo s (fold_odd A s ho (.lst ((x :: xs).map D.int)))
      have f2 := done_op A J heo s (fold_odd A s ho (.tup ((x :: xs).map D.int)))
      exact nx_if (k := false) (s1 := s) (by simp only [runF, mSeq, seqS, mAsg, mBin, mUn, mVar, mC, mRet, mNext, mIfS, mTest, mTruth, mAnd, mOr, mNot, mAndV, mOrV, mNotV, mCl, mCons, mNil, mCall, mDrop, mDrI, mDrNe, mDrIx, mDrLen, mDrSet, mDrPop, drL, isDr0, toS, fName, R.lift, bind_ok, bind_err, bind_bad, eAdd, eSub, eMul, eDiv, eMod, ePow, eNeg, eLt, eLe, eGt, eGe, eEqI, eNeI, eEqS, eEqB, eNeB, eIdxL, eIdxT, eBool, eAbs, Bool.false_eq_true, dList, dTup, if_true, if_false, if_pos, List.map_cons, List.map_nil, List.length_cons, List.length_nil, List.replicate, List.cons_append, List.nil_append, List.getElem?_cons_zero, List.getElem?_cons_succ, List.set_cons_zero, List.set_cons_succ, Nat.reduceAdd, Nat.reduceSub, Nat.reduceLeDiff, Nat.reduceLT, Nat.reduceMul, Int.reduceToNat, Int.reduceEq, Int.reduceAdd, Int.reduceSub, Int.reduceNeg, Bool.not_true, Bool.not_false, decide_true, decide_false, reduceIte, Nat.reduceEqDiff, ite_true, ite_false, mIf, mLst, mSlice, mPart, mNoPart, mItS, mItL, mItT, asSeq, asList, asTup, mFor, mPar, mPass, mBrk, mCnt, mRetN, (odd_ok ho).2.1]) (fun hk => by cases hk) (fun _ => nx_next ⟨_, _, rfl, f1, f2, rfl, rfl⟩)
  rintro _ _ ⟨due, y7, hp, f1, f2, rfl, rfl⟩
  have sm := same_ok A hp s
  refine nx_seq (fun ρ' s' => ρ' = Env A x0 x2 (.sh (.lst ops13)) (.sh (.str op)) (.sh (.lst ((x :: xs).map D.int))) (.sh due) y7 (.sh (.lst ((x :: xs).map D.int))) y9 ∧ s = s') (nx_of (by simp only [List.map_cons] at lof; simp only [runF, mSeq, seqS, mAsg, mBin, mUn, mVar, mC, mRet, mNext, mIfS, mTest, mTruth, mAnd, mOr, mNot, mAndV, mOrV, mNotV, mCl, mCons, mNil, mCall, mDrop, mDrI, mDrNe, mDrIx, mDrLen, mDrSet, mDrPop, drL, isDr0, toS, fName, R.lift, bind_ok, bind_err, bind_bad, eAdd, eSub, eMul, eDiv, eMod, ePow, eNeg, eLt, eLe, eGt, eGe, eEqI, eNeI, eEqS, eEqB, eNeB, eIdxL, eIdxT, eBool, eAbs, Bool.false_eq_true, dList, dTup, if_true, if_false, if_pos, List.map_cons, List.map_nil, List.length_cons, List.length_nil, List.replicate, List.cons_append, List.nil_append, List.getElem?_cons_zero, List.getElem?_cons_succ, List.set_cons_zero, List.set_cons_succ, Nat.reduceAdd, Nat.reduceSub, Nat.reduceLeDiff, Nat.reduceLT, Nat.reduceMul, Int.reduceToNat, Int.reduceEq, Int.reduceAdd, Int.reduceSub, Int.reduceNeg, Bool.not_true, Bool.not_false, decide_true, decide_false, reduceIte, Nat.reduceEqDiff, ite_true, ite_false, mIf, mLst, mSlice, mPart, mNoPart, mItS, mItL, mItT, asSeq, asList, asTup, mFor, mPar, mPass, mBrk, mCnt, mRetN, lof] <;> rfl) ⟨rfl, rfl⟩) ?_
  rintro _ _ ⟨rfl, rfl⟩
  simp only [List.map_cons] at f1 f2 ne tof
  refine nx_seq (fun ρ' s' => ρ' = Env A x0 x2 (.sh (.lst ops13)) (.sh (.str op)) (.sh (.lst ((x :: xs).map D.int))) (.sh due) y7 (.sh (.lst ((x :: xs).map D.int))) y9 ∧ s = s') (nx_if (k := false) (s1 := s) (by simp only [runF, mSeq, seqS, mAsg, mBin, mUn, mVar, mC, mRet, mNext, mIfS, mTest, mTruth, mAnd, mOr, mNot, mAndV, mOrV, mNotV, mCl, mCons, mNil, mCall, mDrop, mDrI, mDrNe, mDrIx, mDrLen, mDrSet, mDrPop, drL, isDr0, toS, fName, R.lift, bind_ok, bind_err, bind_bad, eAdd, eSub, eMul, eDiv, eMod, ePow, eNeg, eLt, eLe, eGt, eGe, eEqI, eNeI, eEqS, eEqB, eNeB, eIdxL, eIdxT, eBool, eAbs, Bool.false_eq_true, dList, dTup, if_true, if_false, if_pos, List.map_cons, List.map_nil, List.length_cons, List.length_nil, List.replicate, List.cons_append, List.nil_append, List.getElem?_cons_zero, List.getElem?_cons_succ, List.set_cons_zero, List.set_cons_succ, Nat.reduceAdd, Nat.reduceSub, Nat.reduceLeDiff, Nat.reduceLT, Nat.reduceMul, Int.reduceToNat, Int.reduceEq, Int.reduceAdd, Int.reduceSub, Int.reduceNeg, Bool.not_true, Bool.not_false, decide_true, decide_false, reduceIte, Nat.reduceEqDiff, ite_true, ite_false, mIf, mLst, mSlice, mPart, mNoPart, mItS, mItL, mItT, asSeq, asList, asTup, mFor, mPar, mPass, mBrk, mCnt, mRetN, f1, sm, ne, dTruth]) (fun hk => by cases hk) (fun _ => nx_next ⟨rfl, rfl⟩)) ?_
  rintro _ _ ⟨rfl, rfl⟩
  exact nx_if (k := false) (s1 := s) (by simp only [runF, mSeq, seqS, mAsg, mBin, mUn, mVar, mC, mRet, mNext, mIfS, mTest, mTruth, mAnd, mOr, mNot, mAndV, mOrV, mNotV, mCl, mCons, mNil, mCall, mDrop, mDrI, mDrNe, mDrIx, mDrLen, mDrSet, mDrPop, drL, isDr0, toS, fName, R.lift, bind_ok, bind_err, bind_bad, eAdd, eSub, eMul, eDiv, eMod, ePow, eNeg, eLt, eLe, eGt, eGe, eEqI, eNeI, eEqS, eEqB, eNeB, eIdxL, eIdxT, eBool, eAbs, Bool.false_eq_true, dList, dTup, if_true, if_false, if_pos, List.map_cons, List.map_nil, List.length_cons, List.length_nil, List.replicate, List.cons_append, List.nil_append, List.getElem?_cons_zero, List.getElem?_cons_succ, List.set_cons_zero, List.set_cons_succ, Nat.reduceAdd, Nat.reduceSub, Nat.reduceLeDiff, Nat.reduceLT, Nat.reduceMul, Int.reduceToNat, Int.reduceEq, Int.reduceAdd, Int.reduceSub, Int.reduceNeg, Bool.not_true, Bool.not_false, decide_true, decide_false, reduceIte, Nat.reduceEqDiff, ite_true, ite_false, mIf, mLst, mSlice, mPart, mNoPart, mItS, mItL, mItT, asSeq, asList, asTup, mFor, mPar, mPass, mBrk, mCnt, mRetN, tof, f2, sm, dTruth]) (fun hk => by cases hk) (fun _ => nx_next ⟨⟨_, _, _, _, _, _, _, _, rfl⟩, ok.mono (by omega)⟩)
theorem hm_holds (A : Ad) (ns : List Int) (he : A.es = [.AxisError, .OperatorError, .FaultError]) (J : A.toCa.Inj) (hl : ns.length ≤ 63) : ∃ s, mb_law A (.sh (.lst (ns.map D.int)) :: .sh (.ref A.d) :: List.replicate 8 .no) ⟨ns.filter (fun n => decide (10 ^ 18 ≤ n)), 0, ns.filter (fun n => decide (n < 10 ^ 18)), 0⟩ = .rt (.bl true) s := by
  have k0 := Ok.start ns
  generalize (⟨ns.filter (fun n => decide (10 ^ 18 ≤ n)), 0, ns.filter (fun n => decide (n < 10 ^ 18)), 0⟩ : Dr) = s0 at k0 ⊢
  generalize Sl.sh (D.lst (ns.map D.int)) = x0
  obtain ⟨ρ', s', e, h⟩ := forL_nx (O := O A) (f := fName 2) (mb := bd_law_3 A) 6 (fun i ρ s => (∃ y2 y3 y4 y5 y6 y7 y8 y9, ρ = Env A x0 y2 y3 y4 y5 y6 y7 y8 y9) ∧ Ok (1000 * i) s)
    (by
      rintro i d ρ s hi ⟨⟨y2, y3, y4, y5, y6, y7, y8, y9, rfl⟩, ok⟩
      exact ⟨_, rfl, (turn_ok A J he (x0 := x0) (x2 := .sh d) (x3 := y3) (x4 := y4) (x5 := y5) (x6 := y6) (x7 := y7) (x8 := y8) (x9 := y9) ok (by omega)).mono fun ρ' s' h => ⟨h.1, h.2.mono (by omega)⟩⟩)
    (rangeD 0 6) (by simp [rangeD]) (Env A x0 .no .no .no .no .no .no .no .no) s0 ⟨⟨_, _, _, _, _, _, _, _, rfl⟩, k0.mono (by omega)⟩
  refine ⟨s', ?_⟩
  have hr : ((6 : Int) ≤ 100000 ∧ -100000 ≤ (6 : Int)) := by decide
  simp only [Env] at e
  simp only [mb_law, mRng1, runF, mSeq, seqS, mAsg, mBin, mUn, mVar, mC, mRet, mNext, mIfS, mTest, mTruth, mAnd, mOr, mNot, mAndV, mOrV, mNotV, mCl, mCons, mNil, mCall, mDrop, mDrI, mDrNe, mDrIx, mDrLen, mDrSet, mDrPop, drL, isDr0, toS, fName, R.lift, bind_ok, bind_err, bind_bad, eAdd, eSub, eMul, eDiv, eMod, ePow, eNeg, eLt, eLe, eGt, eGe, eEqI, eNeI, eEqS, eEqB, eNeB, eIdxL, eIdxT, eBool, eAbs, Bool.false_eq_true, dList, dTup, if_true, if_false, if_pos, List.map_cons, List.map_nil, List.length_cons, List.length_nil, List.replicate, List.cons_append, List.nil_append, List.getElem?_cons_zero, List.getElem?_cons_succ, List.set_cons_zero, List.set_cons_succ, Nat.reduceAdd, Nat.reduceSub, Nat.reduceLeDiff, Nat.reduceLT, Nat.reduceMul, Int.reduceToNat, Int.reduceEq, Int.reduceAdd, Int.reduceSub, Int.reduceNeg, Bool.not_true, Bool.not_false, decide_true, decide_false, reduceIte, Nat.reduceEqDiff, ite_true, ite_false, mIf, mLst, mSlice, mPart, mNoPart, mItS, mItL, mItT, asSeq, asList, asTup, mFor, mPar, mPass, mBrk, mCnt, mRetN, hr, e, and_self]
end K43

namespace K43
open PySem PySem.Spec PyProof.Rows L2 RZ Mr S
theorem ini_AxisError {P : Program} {w : World} {K : PySem.W.Frag} {mg : Str → Option Value} {base : Heap} {C L f : Addr} {fd : FuncData} (F : Fun K "__init__" "AxisError.__init__" s_iAxisError f fd) (T0 : LcT K mg L) (TE : OexC K C) (no : ∀ f ∈ [("axis" : Str)], PySem.W.findIn K (.ref C) f = some none) :
    FnOk P w K mg base CX0 1 f fd ["self", "axis"] (spIni K C ["axis"]) := by
  refine F.ok sc_iAxisError (fun vs H Q E h => ?_) (fun cdv A outer s H vs Q E hr h => ?_)
  · obtain ⟨a, ws, rfl, hl, _⟩ := h
    show ws.length + 1 = _
    rw [hl]
    rfl
  · obtain ⟨a, ws, rfl, hl, ea, fv, q⟩ := h
    match ws, hl with
    | [v0], _ =>
      refine ⟨_, pss_cons (ps_expr (pe_lcinit rfl T0 (pa_cons (pv 0) (pa_cons (pe_joined (.cons pe_str (.cons (pe_fmtG rfl hr (pv 1)) .nil))) pa_nil)))) (pss_one (ps_ost (pv 0) (pv 1))), ?_⟩
      refine init1_read (E := E) TE (no _ (by simp)) rfl rfl ea ?_ (Nat.le_of_ble_eq_true rfl) q
      intro t ht
      simp only [List.mem_cons, List.not_mem_nil, or_false] at ht
      rcases ht with rfl | rfl
      · exact part_c (by decide)
      · exact part_v rfl (fv _ (by simp))
theorem ini_OperatorError {P : Program} {w : World} {K : PySem.W.Frag} {mg : Str → Option Value} {base : Heap} {C L f : Addr} {fd : FuncData} (F : Fun K "__init__" "OperatorError.__init__" s_iOperatorError f fd) (T0 : LcT K mg L) (TE : OexC K C) (no : ∀ f ∈ [("operator" : Str)], PySem.W.findIn K (.ref C) f = some none) :
    FnOk P w K mg base CX0 1 f fd ["self", "operator"] (spIni K C ["operator"]) := by
  refine F.ok sc_iOperatorError (fun vs H Q E h => ?_) (fun cdv A outer s H vs Q E hr h => ?_)
  · obtain ⟨a, ws, rfl, hl, _⟩ := h
    show ws.length + 1 = _
    rw [hl]
    rfl
  · obtain ⟨a, ws, rfl, hl, ea, fv, q⟩ := h
    match ws, hl with
    | [v0], _ =>
      refine ⟨_, pss_cons (ps_expr (pe_lcinit rfl T0 (pa_cons (pv 0) (pa_cons (pe_joined (.cons pe_str (.cons (pe_fmtG rfl hr (pv 1)) .nil))) pa_nil)))) (pss_one (ps_ost (pv 0) (pv 1))), ?_⟩
      refine init1_read (E := E) TE (no _ (by simp)) rfl rfl ea ?_ (Nat.le_of_ble_eq_true rfl) q
      intro t ht
      simp only [List.mem_cons, List.not_mem_nil, or_false] at ht
      rcases ht with rfl | rfl
      · exact part_c (by decide)
      · exact part_v rfl (fv _ (by simp))
theorem ini_FaultError {P : Program} {w : World} {K : PySem.W.Frag} {mg : Str → Option Value} {base : Heap} {C L f : Addr} {fd : FuncData} (F : Fun K "__init__" "FaultError.__init__" s_iFaultError f fd) (T0 : LcT K mg L) (TE : OexC K C) (no : ∀ f ∈ [("reason" : Str)], PySem.W.findIn K (.ref C) f = some none) :
    FnOk P w K mg base CX0 1 f fd ["self", "reason"] (spIni K C ["reason"]) := by
  refine F.ok sc_iFaultError (fun vs H Q E h => ?_) (fun cdv A outer s H vs Q E hr h => ?_)
  · obtain ⟨a, ws, rfl, hl, _⟩ := h
    show ws.length + 1 = _
    rw [hl]
    rfl
  · obtain ⟨a, ws, rfl, hl, ea, fv, q⟩ := h
    match ws, hl with
    | [v0], _ =>
      refine ⟨_, pss_cons (ps_expr (pe_lcinit rfl T0 (pa_cons (pv 0) (pa_cons (pe_joined (.cons pe_str (.cons (pe_fmtG rfl hr (pv 1)) .nil))) pa_nil)))) (pss_one (ps_ost (pv 0) (pv 1))), ?_⟩
      refine init1_read (E := E) TE (no _ (by simp)) rfl rfl ea ?_ (Nat.le_of_ble_eq_true rfl) q
      intro t ht
      simp only [List.mem_cons, List.not_mem_nil, or_false] at ht
      rcases ht with rfl | rfl
      · exact part_c (by decide)
      · exact part_v rfl (fv _ (by simp))
theorem all_mk {P : Program} {w : World} {K : PySem.W.Frag} {h : Heap} {mg : Str → Option Value} {fa L : Addr} (X : K.In h) (G : h.Ns mainGlobals mg) (hfa : mg "law" = some (.ref fa))
    {nm0 q0 : Str} {C0 N0 fI0 : Addr} {bs0 bm0 : List Value} {sn0 : List Str} {sub0 : List Value} {ab0 : Bool} {col0 : Option Bool} {dd0 odI0 anI0 : Option Addr} {m00 m10 m20 m30 m50 : Option Value} {slI0 : Array (Option Value)} {ocI0 kVI0 dcI0 pmI0 cdI0 ctI0 : Value}
    {nm1 q1 : Str} {C1 N1 fI1 : Addr} {bs1 bm1 : List Value} {sn1 : List Str} {sub1 : List Value} {ab1 : Bool} {col1 : Option Bool} {dd1 odI1 anI1 : Option Addr} {m01 m11 m21 m31 m51 : Option Value} {slI1 : Array (Option Value)} {ocI1 kVI1 dcI1 pmI1 cdI1 ctI1 : Value}
    {nm2 q2 : Str} {C2 N2 fI2 : Addr} {bs2 bm2 : List Value} {sn2 : List Str} {sub2 : List Value} {ab2 : Bool} {col2 : Option Bool} {dd2 odI2 anI2 : Option Addr} {m02 m12 m22 m32 m52 : Option Value} {slI2 : Array (Option Value)} {ocI2 kVI2 dcI2 pmI2 cdI2 ctI2 : Value}
    {f0 : Addr} {od0 an0 : Option Addr} {sl0 : Array (Option Value)} {oc0 kV0 dc0 pm0 cd0 ct0 : Value}
    {f1 : Addr} {od1 an1 : Option Addr} {sl1 : Array (Option Value)} {oc1 kV1 dc1 pm1 cd1 ct1 : Value}
    {f2 : Addr} {od2 an2 : Option Addr} {sl2 : Array (Option Value)} {oc2 kV2 dc2 pm2 cd2 ct2 : Value}
    {f3 : Addr} {od3 an3 : Option Addr} {sl3 : Array (Option Value)} {oc3 kV3 dc3 pm3 cd3 ct3 : Value}
    {f4 : Addr} {od4 an4 : Option Addr} {sl4 : Array (Option Value)} {oc4 kV4 dc4 pm4 cd4 ct4 : Value}
    {f5 : Addr} {od5 an5 : Option Addr} {sl5 : Array (Option Value)} {oc5 kV5 dc5 pm5 cd5 ct5 : Value}
    {f6 : Addr} {od6 an6 : Option Addr} {sl6 : Array (Option Value)} {oc6 kV6 dc6 pm6 cd6 ct6 : Value}
    {f7 : Addr} {od7 an7 : Option Addr} {sl7 : Array (Option Value)} {oc7 kV7 dc7 pm7 cd7 ct7 : Value}
    {f8 : Addr} {od8 an8 : Option Addr} {sl8 : Array (Option Value)} {oc8 kV8 dc8 pm8 cd8 ct8 : Value}
    {f9 : Addr} {od9 an9 : Option Addr} {sl9 : Array (Option Value)} {oc9 kV9 dc9 pm9 cd9 ct9 : Value}
    {f10 : Addr} {od10 an10 : Option Addr} {sl10 : Array (Option Value)} {oc10 kV10 dc10 pm10 cd10 ct10 : Value}
    {f11 : Addr} {od11 an11 : Option Addr} {sl11 : Array (Option Value)} {oc11 kV11 dc11 pm11 cd11 ct11 : Value}
    {f12 : Addr} {od12 an12 : Option Addr} {sl12 : Array (Option Value)} {oc12 kV12 dc12 pm12 cd12 ct12 : Value}
    {f13 : Addr} {od13 an13 : Option Addr} {sl13 : Array (Option Value)} {oc13 kV13 dc13 pm13 cd13 ct13 : Value}
    {f14 : Addr} {od14 an14 : Option Addr} {sl14 : Array (Option Value)} {oc14 kV14 dc14 pm14 cd14 ct14 : Value}
    {f15 : Addr} {od15 an15 : Option Addr} {sl15 : Array (Option Value)} {oc15 kV15 dc15 pm15 cd15 ct15 : Value}
    {gA0 : Addr} {gd0 : Option Addr} {its0 : Array Value} {gn0 : Nat} {gs0 : Array (Option Value)}
    {gA1 : Addr} {gd1 : Option Addr} {its1 : Array Value} {gn1 : Nat} {gs1 : Array (Option Value)}
    {tk2 : Tok}
    (aL : PySem.W.nsIn K mainGlobals "LateCopyError" = some (some (.ref L)))
    (rL : PySem.W.readsIn K L (.type "type") = true)
    (fL : PySem.W.findCls K (.ref L) (.type "type") "__init__" = some (.val (.builtin "ValueError.__init__")))
    (sL : PySem.W.specialIn K (.ref L) "__getattribute__" = some (some (.builtin "type.__getattribute__")))
    (aC0 : PySem.W.nsIn K mainGlobals "AxisError" = some (some (.ref C0)))
    (xC0 : K.lookup C0 = some (excClassObj nm0 q0 C0 N0 bs0 bm0 true sn0 sub0 ab0 col0 dd0 m00 m10 m20 m30 m50 "ValueError.__new__"))
    (bC0 : PySem.HandSPX.refsVE bm0 = true)
    (sC0 : PySem.W.findIn K (.ref C0) "__setattr__" = some (some (.builtin "object.__setattr__")))
    (eC0 : PySem.W.subIn K (.ref C0) (.type "BaseException") = some true)
    (tC0 : PySem.W.typeIn K (.ref C0) = some (.type "type"))
    (kC0 : PySem.W.keepIn K (.ref C0) = true)
    (ga0 : PySem.W.findIn K (.ref C0) "__getattribute__" = some (some (.builtin "BaseException.__getattribute__")))
    (gg0 : PySem.W.findIn K (.ref C0) "__getattr__" = some none)
    (hd0 : PySem.W.hasDictIn K C0 = true)
    (no0_0 : PySem.W.findIn K (.ref C0) "axis" = some none)
    (aI0 : PySem.W.findIn K (.ref C0) "__init__" = some (some (.ref fI0)))
    (tI0 : PySem.W.typeIn K (.ref fI0) = some (.type "function"))
    (lI0 : K.lookup fI0 = some ⟨ocI0, odI0, .func (PySem.W.fnOf "__init__" "AxisError.__init__" (defArgs s_iAxisError) (defBody s_iAxisError) (defScope s_iAxisError) .none kVI0 dcI0 pmI0 anI0 cdI0 ctI0), slI0⟩)
    (cI0 : PySem.W.codeIn K cdI0 "AxisError.__init__" = true)
    (kI0 : PySem.W.keepIn K (.ref fI0) = true)
    (aC1 : PySem.W.nsIn K mainGlobals "OperatorError" = some (some (.ref C1)))
    (xC1 : K.lookup C1 = some (excClassObj nm1 q1 C1 N1 bs1 bm1 true sn1 sub1 ab1 col1 dd1 m01 m11 m21 m31 m51 "ValueError.__new__"))
    (bC1 : PySem.HandSPX.refsVE bm1 = true)
    (sC1 : PySem.W.findIn K (.ref C1) "__setattr__" = some (some (.builtin "object.__setattr__")))
    (eC1 : PySem.W.subIn K (.ref C1) (.type "BaseException") = some true)
    (tC1 : PySem.W.typeIn K (.ref C1) = some (.type "type"))
    (kC1 : PySem.W.keepIn K (.ref C1) = true)
    (ga1 : PySem.W.findIn K (.ref C1) "__getattribute__" = some (some (.builtin "BaseException.__getattribute__")))
    (gg1 : PySem.W.findIn K (.ref C1) "__getattr__" = some none)
    (hd1 : PySem.W.hasDictIn K C1 = true)
    (no1_0 : PySem.W.findIn K (.ref C1) "operator" = some none)
    (aI1 : PySem.W.findIn K (.ref C1) "__init__" = some (some (.ref fI1)))
    (tI1 : PySem.W.typeIn K (.ref fI1) = some (.type "function"))
    (lI1 : K.lookup fI1 = some ⟨ocI1, odI1, .func (PySem.W.fnOf "__init__" "OperatorError.__init__" (defArgs s_iOperatorError) (defBody s_iOperatorError) (defScope s_iOperatorError) .none kVI1 dcI1 pmI1 anI1 cdI1 ctI1), slI1⟩)
    (cI1 : PySem.W.codeIn K cdI1 "OperatorError.__init__" = true)
    (kI1 : PySem.W.keepIn K (.ref fI1) = true)
    (aC2 : PySem.W.nsIn K mainGlobals "FaultError" = some (some (.ref C2)))
    (xC2 : K.lookup C2 = some (excClassObj nm2 q2 C2 N2 bs2 bm2 true sn2 sub2 ab2 col2 dd2 m02 m12 m22 m32 m52 "ValueError.__new__"))
    (bC2 : PySem.HandSPX.refsVE bm2 = true)
    (sC2 : PySem.W.findIn K (.ref C2) "__setattr__" = some (some (.builtin "object.__setattr__")))
    (eC2 : PySem.W.subIn K (.ref C2) (.type "BaseException") = some true)
    (tC2 : PySem.W.typeIn K (.ref C2) = some (.type "type"))
    (kC2 : PySem.W.keepIn K (.ref C2) = true)
    (ga2 : PySem.W.findIn K (.ref C2) "__getattribute__" = some (some (.builtin "BaseException.__getattribute__")))
    (gg2 : PySem.W.findIn K (.ref C2) "__getattr__" = some none)
    (hd2 : PySem.W.hasDictIn K C2 = true)
    (no2_0 : PySem.W.findIn K (.ref C2) "reason" = some none)
    (aI2 : PySem.W.findIn K (.ref C2) "__init__" = some (some (.ref fI2)))
    (tI2 : PySem.W.typeIn K (.ref fI2) = some (.type "function"))
    (lI2 : K.lookup fI2 = some ⟨ocI2, odI2, .func (PySem.W.fnOf "__init__" "FaultError.__init__" (defArgs s_iFaultError) (defBody s_iFaultError) (defScope s_iFaultError) .none kVI2 dcI2 pmI2 anI2 cdI2 ctI2), slI2⟩)
    (cI2 : PySem.W.codeIn K cdI2 "FaultError.__init__" = true)
    (kI2 : PySem.W.keepIn K (.ref fI2) = true)
    (xL_0 : PySem.W.exmOne K (.ref C0) (.ref L) = some true)
    (xL_1 : PySem.W.exmOne K (.ref C1) (.ref L) = some true)
    (xL_2 : PySem.W.exmOne K (.ref C2) (.ref L) = some true)
    (x0_0 : PySem.W.exmOne K (.ref C0) (.ref C0) = some true)
    (x0_1 : PySem.W.exmOne K (.ref C1) (.ref C0) = some false)
    (x1_1 : PySem.W.exmOne K (.ref C1) (.ref C1) = some true)
    (x0_2 : PySem.W.exmOne K (.ref C2) (.ref C0) = some false)
    (x1_2 : PySem.W.exmOne K (.ref C2) (.ref C1) = some false)
    (x2_2 : PySem.W.exmOne K (.ref C2) (.ref C2) = some true)
    (igs : PySem.W.specialIn K (.builtin "object.__class__") "__get__" = some (some (.builtin "getset_descriptor.__get__")))
    (itk : PySem.W.takesIn K (.builtin "object.__class__") = some true)
    (icl0 : (PySem.W.clsIn K C0).isSome = true)
    (ica0 : PySem.W.findIn K (.ref C0) "__class__" = some (some (.builtin "object.__class__")))
    (imr0 : PySem.W.mroIn K C0 (.type "object") = some true)
    (kit0_AxisError : PySem.W.kitOne K (.ref C0) (.ref C0) = some true)
    (kit0_FaultError : PySem.W.kitOne K (.ref C0) (.ref C2) = some false)
    (kit0_LateCopyError : PySem.W.kitOne K (.ref C0) (.ref L) = some true)
    (kit0_OperatorError : PySem.W.kitOne K (.ref C0) (.ref C1) = some false)
    (kit0_ValueError : PySem.W.kitOne K (.ref C0) (.type "ValueError") = some true)
    (icl1 : (PySem.W.clsIn K C1).isSome = true)
    (ica1 : PySem.W.findIn K (.ref C1) "__class__" = some (some (.builtin "object.__class__")))
    (imr1 : PySem.W.mroIn K C1 (.type "object") = some true)
    (kit1_AxisError : PySem.W.kitOne K (.ref C1) (.ref C0) = some false)
    (kit1_FaultError : PySem.W.kitOne K (.ref C1) (.ref C2) = some false)
    (kit1_LateCopyError : PySem.W.kitOne K (.ref C1) (.ref L) = some true)
    (kit1_OperatorError : PySem.W.kitOne K (.ref C1) (.ref C1) = some true)
    (kit1_ValueError : PySem.W.kitOne K (.ref C1) (.type "ValueError") = some true)
    (icl2 : (PySem.W.clsIn K C2).isSome = true)
    (ica2 : PySem.W.findIn K (.ref C2) "__class__" = some (some (.builtin "object.__class__")))
    (imr2 : PySem.W.mroIn K C2 (.type "object") = some true)
    (kit2_AxisError : PySem.W.kitOne K (.ref C2) (.ref C0) = some false)
    (kit2_FaultError : PySem.W.kitOne K (.ref C2) (.ref C2) = some true)
    (kit2_LateCopyError : PySem.W.kitOne K (.ref C2) (.ref L) = some true)
    (kit2_OperatorError : PySem.W.kitOne K (.ref C2) (.ref C1) = some false)
    (kit2_ValueError : PySem.W.kitOne K (.ref C2) (.type "ValueError") = some true)
    (a0 : PySem.W.nsIn K mainGlobals "result_of" = some (some (.ref f0)))
    (l0 : K.lookup f0 = some ⟨oc0, od0, .func (PySem.W.fnOf "result_of" "result_of" (defArgs s_result_of) (defBody s_result_of) (defScope s_result_of) .none kV0 dc0 pm0 an0 cd0 ct0), sl0⟩)
    (c0 : PySem.W.codeIn K cd0 "result_of" = true)
    (k0 : PySem.W.keepIn K (.ref f0) = true)
    (a1 : PySem.W.nsIn K mainGlobals "check_operator" = some (some (.ref f1)))
    (l1 : K.lookup f1 = some ⟨oc1, od1, .func (PySem.W.fnOf "check_operator" "check_operator" (defArgs s_check_operator) (defBody s_check_operator) (defScope s_check_operator) .none kV1 dc1 pm1 an1 cd1 ct1), sl1⟩)
    (c1 : PySem.W.codeIn K cd1 "check_operator" = true)
    (k1 : PySem.W.keepIn K (.ref f1) = true)
    (a2 : PySem.W.nsIn K mainGlobals "apply" = some (some (.ref f2)))
    (l2 : K.lookup f2 = some ⟨oc2, od2, .func (PySem.W.fnOf "apply" "apply" (defArgs s_apply) (defBody s_apply) (defScope s_apply) .none kV2 dc2 pm2 an2 cd2 ct2), sl2⟩)
    (c2 : PySem.W.codeIn K cd2 "apply" = true)
    (k2 : PySem.W.keepIn K (.ref f2) = true)
    (a3 : PySem.W.nsIn K mainGlobals "fold" = some (some (.ref f3)))
    (l3 : K.lookup f3 = some ⟨oc3, od3, .func (PySem.W.fnOf "fold" "fold" (defArgs s_fold) (defBody s_fold) (defScope s_fold) .none kV3 dc3 pm3 an3 cd3 ct3), sl3⟩)
    (c3 : PySem.W.codeIn K cd3 "fold" = true)
    (k3 : PySem.W.keepIn K (.ref f3) = true)
    (a4 : PySem.W.nsIn K mainGlobals "_law_draws" = some (some (.ref f4)))
    (l4 : K.lookup f4 = some ⟨oc4, od4, .func (PySem.W.fnOf "_law_draws" "_law_draws" (defArgs s_law_draws) (defBody s_law_draws) (defScope s_law_draws) .none kV4 dc4 pm4 an4 cd4 ct4), sl4⟩)
    (c4 : PySem.W.codeIn K cd4 "_law_draws" = true)
    (k4 : PySem.W.keepIn K (.ref f4) = true)
    (a5 : PySem.W.nsIn K mainGlobals "_law_mixed" = some (some (.ref f5)))
    (l5 : K.lookup f5 = some ⟨oc5, od5, .func (PySem.W.fnOf "_law_mixed" "_law_mixed" (defArgs s_law_mixed) (defBody s_law_mixed) (defScope s_law_mixed) .none kV5 dc5 pm5 an5 cd5 ct5), sl5⟩)
    (c5 : PySem.W.codeIn K cd5 "_law_mixed" = true)
    (k5 : PySem.W.keepIn K (.ref f5) = true)
    (a6 : PySem.W.nsIn K mainGlobals "_law_take" = some (some (.ref f6)))
    (l6 : K.lookup f6 = some ⟨oc6, od6, .func (PySem.W.fnOf "_law_take" "_law_take" (defArgs s_law_take) (defBody s_law_take) (defScope s_law_take) .none kV6 dc6 pm6 an6 cd6 ct6), sl6⟩)
    (c6 : PySem.W.codeIn K cd6 "_law_take" = true)
    (k6 : PySem.W.keepIn K (.ref f6) = true)
    (a7 : PySem.W.nsIn K mainGlobals "_law_number" = some (some (.ref f7)))
    (l7 : K.lookup f7 = some ⟨oc7, od7, .func (PySem.W.fnOf "_law_number" "_law_number" (defArgs s_law_number) (defBody s_law_number) (defScope s_law_number) .none kV7 dc7 pm7 an7 cd7 ct7), sl7⟩)
    (c7 : PySem.W.codeIn K cd7 "_law_number" = true)
    (k7 : PySem.W.keepIn K (.ref f7) = true)
    (a8 : PySem.W.nsIn K mainGlobals "_law_great" = some (some (.ref f8)))
    (l8 : K.lookup f8 = some ⟨oc8, od8, .func (PySem.W.fnOf "_law_great" "_law_great" (defArgs s_law_great) (defBody s_law_great) (defScope s_law_great) .none kV8 dc8 pm8 an8 cd8 ct8), sl8⟩)
    (c8 : PySem.W.codeIn K cd8 "_law_great" = true)
    (k8 : PySem.W.keepIn K (.ref f8) = true)
    (a9 : PySem.W.nsIn K mainGlobals "_law_same" = some (some (.ref f9)))
    (l9 : K.lookup f9 = some ⟨oc9, od9, .func (PySem.W.fnOf "_law_same" "_law_same" (defArgs s_law_same) (defBody s_law_same) (defScope s_law_same) .none kV9 dc9 pm9 an9 cd9 ct9), sl9⟩)
    (c9 : PySem.W.codeIn K cd9 "_law_same" = true)
    (k9 : PySem.W.keepIn K (.ref f9) = true)
    (a10 : PySem.W.nsIn K mainGlobals "_law_result" = some (some (.ref f10)))
    (l10 : K.lookup f10 = some ⟨oc10, od10, .func (PySem.W.fnOf "_law_result" "_law_result" (defArgs s_law_result) (defBody s_law_result) (defScope s_law_result) .none kV10 dc10 pm10 an10 cd10 ct10), sl10⟩)
    (c10 : PySem.W.codeIn K cd10 "_law_result" = true)
    (k10 : PySem.W.keepIn K (.ref f10) = true)
    (a11 : PySem.W.nsIn K mainGlobals "_law_kind" = some (some (.ref f11)))
    (l11 : K.lookup f11 = some ⟨oc11, od11, .func (PySem.W.fnOf "_law_kind" "_law_kind" (defArgs s_law_kind) (defBody s_law_kind) (defScope s_law_kind) .none kV11 dc11 pm11 an11 cd11 ct11), sl11⟩)
    (c11 : PySem.W.codeIn K cd11 "_law_kind" = true)
    (k11 : PySem.W.keepIn K (.ref f11) = true)
    (a12 : PySem.W.nsIn K mainGlobals "_law_folded" = some (some (.ref f12)))
    (l12 : K.lookup f12 = some ⟨oc12, od12, .func (PySem.W.fnOf "_law_folded" "_law_folded" (defArgs s_law_folded) (defBody s_law_folded) (defScope s_law_folded) .none kV12 dc12 pm12 an12 cd12 ct12), sl12⟩)
    (c12 : PySem.W.codeIn K cd12 "_law_folded" = true)
    (k12 : PySem.W.keepIn K (.ref f12) = true)
    (a13 : PySem.W.nsIn K mainGlobals "_law_sixty" = some (some (.ref f13)))
    (l13 : K.lookup f13 = some ⟨oc13, od13, .func (PySem.W.fnOf "_law_sixty" "_law_sixty" (defArgs s_law_sixty) (defBody s_law_sixty) (defScope s_law_sixty) .none kV13 dc13 pm13 an13 cd13 ct13), sl13⟩)
    (c13 : PySem.W.codeIn K cd13 "_law_sixty" = true)
    (k13 : PySem.W.keepIn K (.ref f13) = true)
    (a14 : PySem.W.nsIn K mainGlobals "_law_done" = some (some (.ref f14)))
    (l14 : K.lookup f14 = some ⟨oc14, od14, .func (PySem.W.fnOf "_law_done" "_law_done" (defArgs s_law_done) (defBody s_law_done) (defScope s_law_done) .none kV14 dc14 pm14 an14 cd14 ct14), sl14⟩)
    (c14 : PySem.W.codeIn K cd14 "_law_done" = true)
    (k14 : PySem.W.keepIn K (.ref f14) = true)
    (a15 : PySem.W.nsIn K mainGlobals "law" = some (some (.ref f15)))
    (l15 : K.lookup f15 = some ⟨oc15, od15, .func (PySem.W.fnOf "law" "law" (defArgs s_law) (defBody s_law) (defScope s_law) .none kV15 dc15 pm15 an15 cd15 ct15), sl15⟩)
    (c15 : PySem.W.codeIn K cd15 "law" = true)
    (k15 : PySem.W.keepIn K (.ref f15) = true)
    (z_ValueError : PySem.W.nsIn K mainGlobals "ValueError" = some none)
    (z_abs : PySem.W.nsIn K mainGlobals "abs" = some none)
    (z_all : PySem.W.nsIn K mainGlobals "all" = some none)
    (z_bool : PySem.W.nsIn K mainGlobals "bool" = some none)
    (z_int : PySem.W.nsIn K mainGlobals "int" = some none)
    (z_isinstance : PySem.W.nsIn K mainGlobals "isinstance" = some none)
    (z_len : PySem.W.nsIn K mainGlobals "len" = some none)
    (z_list : PySem.W.nsIn K mainGlobals "list" = some none)
    (z_max : PySem.W.nsIn K mainGlobals "max" = some none)
    (z_min : PySem.W.nsIn K mainGlobals "min" = some none)
    (z_range : PySem.W.nsIn K mainGlobals "range" = some none)
    (z_str : PySem.W.nsIn K mainGlobals "str" = some none)
    (z_tuple : PySem.W.nsIn K mainGlobals "tuple" = some none)
    (z_zip : PySem.W.nsIn K mainGlobals "zip" = some none)
    (g0 : PySem.W.nsIn K mainGlobals "OPERATORS" = some (some (.ref gA0)))
    (gl0 : K.lookup gA0 = some ⟨.type "tuple", gd0, .seq its0 gn0, gs0⟩)
    (gz0 : its0.size ≤ 1000)
    (gm0 : its0.toList.map absV = ([.str "+", .str "-", .str "*", .str "//", .str "mod", .str "min", .str "max", .str "less", .str "equal"] : List V).map some)
    (g1 : PySem.W.nsIn K mainGlobals "FOLDS" = some (some (.ref gA1)))
    (gl1 : K.lookup gA1 = some ⟨.type "tuple", gd1, .seq its1 gn1, gs1⟩)
    (gz1 : its1.size ≤ 1000)
    (gm1 : its1.toList.map absV = ([.str "+", .str "*", .str "min", .str "max"] : List V).map some)
    (g2 : PySem.W.nsIn K mainGlobals "LIMIT" = some (some (.int 1000000000000000000000000000000000000000000000000000000000000 tk2)))
    : ∃ fd : FuncData, (∀ (s : Shared) (v : Value), BindsTo s fd ⟨[v], []⟩ [("_law_script", v)]) ∧ ∀ base : Heap, K.In base → base.Ns mainGlobals mg → FnOk P w K mg base (L2.CX P w) 7 fa fd ["_law_script"] (spLaw K) := by
  have e := hfa.symm.trans (PySem.W.mg_of X G a15)
  cases e
  have T0 : LcT K mg L := ⟨PySem.W.mg_of X G aL, rL, fL, sL⟩
  have TE0 : OexC K C0 := ⟨⟨_, _, _, _, _, _, _, _, _, _, _, _, _, _, _, xC0, bC0⟩, sC0, eC0, tC0, kC0⟩
  have no0 : ∀ f ∈ [("axis" : Str)], PySem.W.findIn K (.ref C0) f = some none := by
    intro f hf
    simp only [List.mem_cons, List.not_mem_nil, or_false] at hf
    rcases hf with rfl
    · exact no0_0
  have FI0 := fun_mk (st := s_iAxisError) lI0 cI0 kI0
  have bI0 := FI0.binds (ps := ["self", "axis"]) fun _ _ _ _ _ _ us hl => match us, hl with | [_, _], _ => rfl
  have TE1 : OexC K C1 := ⟨⟨_, _, _, _, _, _, _, _, _, _, _, _, _, _, _, xC1, bC1⟩, sC1, eC1, tC1, kC1⟩
  have no1 : ∀ f ∈ [("operator" : Str)], PySem.W.findIn K (.ref C1) f = some none := by
    intro f hf
    simp only [List.mem_cons, List.not_mem_nil, or_false] at hf
    rcases hf with rfl
    · exact no1_0
  have FI1 := fun_mk (st := s_iOperatorError) lI1 cI1 kI1
  have bI1 := FI1.binds (ps := ["self", "operator"]) fun _ _ _ _ _ _ us hl => match us, hl with | [_, _], _ => rfl
  have TE2 : OexC K C2 := ⟨⟨_, _, _, _, _, _, _, _, _, _, _, _, _, _, _, xC2, bC2⟩, sC2, eC2, tC2, kC2⟩
  have no2 : ∀ f ∈ [("reason" : Str)], PySem.W.findIn K (.ref C2) f = some none := by
    intro f hf
    simp only [List.mem_cons, List.not_mem_nil, or_false] at hf
    rcases hf with rfl
    · exact no2_0
  have FI2 := fun_mk (st := s_iFaultError) lI2 cI2 kI2
  have bI2 := FI2.binds (ps := ["self", "reason"]) fun _ _ _ _ _ _ us hl => match us, hl with | [_, _], _ => rfl
  have F0 := fun_mk (st := s_result_of) l0 c0 k0
  have F1 := fun_mk (st := s_check_operator) l1 c1 k1
  have F2 := fun_mk (st := s_apply) l2 c2 k2
  have F3 := fun_mk (st := s_fold) l3 c3 k3
  have F4 := fun_mk (st := s_law_draws) l4 c4 k4
  have F5 := fun_mk (st := s_law_mixed) l5 c5 k5
  have F6 := fun_mk (st := s_law_take) l6 c6 k6
  have F7 := fun_mk (st := s_law_number) l7 c7 k7
  have F8 := fun_mk (st := s_law_great) l8 c8 k8
  have F9 := fun_mk (st := s_law_same) l9 c9 k9
  have F10 := fun_mk (st := s_law_result) l10 c10 k10
  have F11 := fun_mk (st := s_law_kind) l11 c11 k11
  have F12 := fun_mk (st := s_law_folded) l12 c12 k12
  have F13 := fun_mk (st := s_law_sixty) l13 c13 k13
  have F14 := fun_mk (st := s_law_done) l14 c14 k14
  have F15 := fun_mk (st := s_law) l15 c15 k15
  let C : Ca := ⟨(fun e => match e with
      | .AxisError => C0
      | .OperatorError => C1
      | .FaultError => C2
      | _ => L), [.AxisError, .OperatorError, .FaultError], L, fa⟩
  refine ⟨PySem.W.fnOf "law" "law" (defArgs s_law) (defBody s_law) (defScope s_law) .none kV15 dc15 pm15 an15 cd15 ct15, fun s v => .of_eq rfl, fun base _ _ => ?_⟩
  have T : Txt P w K mg base C :=
    { f_result_of := ⟨_, _, F0, PySem.W.mg_of X G a0⟩
      f_check_operator := ⟨_, _, F1, PySem.W.mg_of X G a1⟩
      f_apply := ⟨_, _, F2, PySem.W.mg_of X G a2⟩
      f_fold := ⟨_, _, F3, PySem.W.mg_of X G a3⟩
      f_law_draws := ⟨_, _, F4, PySem.W.mg_of X G a4⟩
      f_law_mixed := ⟨_, _, F5, PySem.W.mg_of X G a5⟩
      f_law_take := ⟨_, _, F6, PySem.W.mg_of X G a6⟩
      f_law_number := ⟨_, _, F7, PySem.W.mg_of X G a7⟩
      f_law_great := ⟨_, _, F8, PySem.W.mg_of X G a8⟩
      f_law_same := ⟨_, _, F9, PySem.W.mg_of X G a9⟩
      f_law_result := ⟨_, _, F10, PySem.W.mg_of X G a10⟩
      f_law_kind := ⟨_, _, F11, PySem.W.mg_of X G a11⟩
      f_law_folded := ⟨_, _, F12, PySem.W.mg_of X G a12⟩
      f_law_sixty := ⟨_, _, F13, PySem.W.mg_of X G a13⟩
      f_law_done := ⟨_, _, F14, PySem.W.mg_of X G a14⟩
      f_law := ⟨_, _, F15, PySem.W.mg_of X G a15⟩
      b_ValueError := PySem.W.mg_none_of X G z_ValueError
      b_abs := PySem.W.mg_none_of X G z_abs
      b_all := PySem.W.mg_none_of X G z_all
      b_bool := PySem.W.mg_none_of X G z_bool
      b_int := PySem.W.mg_none_of X G z_int
      b_isinstance := PySem.W.mg_none_of X G z_isinstance
      b_len := PySem.W.mg_none_of X G z_len
      b_list := PySem.W.mg_none_of X G z_list
      b_max := PySem.W.mg_none_of X G z_max
      b_min := PySem.W.mg_none_of X G z_min
      b_range := PySem.W.mg_none_of X G z_range
      b_str := PySem.W.mg_none_of X G z_str
      b_tuple := PySem.W.mg_none_of X G z_tuple
      b_zip := PySem.W.mg_none_of X G z_zip
      e_AxisError := ⟨PySem.W.mg_of X G aC0, TE0, ⟨ga0, gg0, eC0, hd0⟩, no0, _, _, aI0, tI0, ini_AxisError FI0 T0 TE0 no0, bI0⟩
      e_OperatorError := ⟨PySem.W.mg_of X G aC1, TE1, ⟨ga1, gg1, eC1, hd1⟩, no1, _, _, aI1, tI1, ini_OperatorError FI1 T0 TE1 no1, bI1⟩
      e_FaultError := ⟨PySem.W.mg_of X G aC2, TE2, ⟨ga2, gg2, eC2, hd2⟩, no2, _, _, aI2, tI2, ini_FaultError FI2 T0 TE2 no2, bI2⟩
      x_LateCopyError := Ca.tL_ok (P := fun c b => PySem.W.exmOne K (.ref c) (.ref L) = some b) (by
        intro e he
        replace he : e ∈ [Er.AxisError, Er.OperatorError, Er.FaultError] := he
        simp only [List.mem_cons, List.not_mem_nil, or_false] at he
        rcases he with rfl | rfl | rfl
        · exact xL_0
        · exact xL_1
        · exact xL_2)
      es := rfl
      inj := by
        intro e he f hf q
        replace he : e ∈ [Er.AxisError, Er.OperatorError, Er.FaultError] := he
        replace hf : f ∈ [Er.AxisError, Er.OperatorError, Er.FaultError] := hf
        simp only [List.mem_cons, List.not_mem_nil, or_false] at he hf
        rcases he with rfl | rfl | rfl <;> rcases hf with rfl | rfl | rfl
        · rfl
        · exfalso; have q2 : C0 = C1 := q; have h0 := x0_0; have h1 := x0_1; rw [← q2, h0] at h1; cases h1
        · exfalso; have q2 : C0 = C2 := q; have h0 := x0_0; have h1 := x0_2; rw [← q2, h0] at h1; cases h1
        · exfalso; have q2 : C0 = C1 := q.symm; have h0 := x0_0; have h1 := x0_1; rw [← q2, h0] at h1; cases h1
        · rfl
        · exfalso; have q2 : C1 = C2 := q; have h0 := x1_1; have h1 := x1_2; rw [← q2, h0] at h1; cases h1
        · exfalso; have q2 : C0 = C2 := q.symm; have h0 := x0_0; have h1 := x0_2; rw [← q2, h0] at h1; cases h1
        · exfalso; have q2 : C1 = C2 := q.symm; have h0 := x1_1; have h1 := x1_2; rw [← q2, h0] at h1; cases h1
        · rfl
      gc_LateCopyError := PySem.W.mg_of X G aL
      gc_AxisError := PySem.W.mg_of X G aC0
      is_AxisError := Ca.t_ok (P := fun c b => IsC K c ∧ PySem.W.kitOne K (.ref c) (.ref C0) = some b) (by
        intro e he
        replace he : e ∈ [Er.AxisError, Er.OperatorError, Er.FaultError] := he
        simp only [List.mem_cons, List.not_mem_nil, or_false] at he
        rcases he with rfl | rfl | rfl
        · exact ⟨⟨icl0, ga0, gg0, eC0, ica0, igs, itk, imr0⟩, kit0_AxisError⟩
        · exact ⟨⟨icl1, ga1, gg1, eC1, ica1, igs, itk, imr1⟩, kit1_AxisError⟩
        · exact ⟨⟨icl2, ga2, gg2, eC2, ica2, igs, itk, imr2⟩, kit2_AxisError⟩)
      gc_FaultError := PySem.W.mg_of X G aC2
      is_FaultError := Ca.t_ok (P := fun c b => IsC K c ∧ PySem.W.kitOne K (.ref c) (.ref C2) = some b) (by
        intro e he
        replace he : e ∈ [Er.AxisError, Er.OperatorError, Er.FaultError] := he
        simp only [List.mem_cons, List.not_mem_nil, or_false] at he
        rcases he with rfl | rfl | rfl
        · exact ⟨⟨icl0, ga0, gg0, eC0, ica0, igs, itk, imr0⟩, kit0_FaultError⟩
        · exact ⟨⟨icl1, ga1, gg1, eC1, ica1, igs, itk, imr1⟩, kit1_FaultError⟩
        · exact ⟨⟨icl2, ga2, gg2, eC2, ica2, igs, itk, imr2⟩, kit2_FaultError⟩)
      is_LateCopyError := Ca.tL_ok (P := fun c b => IsC K c ∧ PySem.W.kitOne K (.ref c) (.ref L) = some b) (by
        intro e he
        replace he : e ∈ [Er.AxisError, Er.OperatorError, Er.FaultError] := he
        simp only [List.mem_cons, List.not_mem_nil, or_false] at he
        rcases he with rfl | rfl | rfl
        · exact ⟨⟨icl0, ga0, gg0, eC0, ica0, igs, itk, imr0⟩, kit0_LateCopyError⟩
        · exact ⟨⟨icl1, ga1, gg1, eC1, ica1, igs, itk, imr1⟩, kit1_LateCopyError⟩
        · exact ⟨⟨icl2, ga2, gg2, eC2, ica2, igs, itk, imr2⟩, kit2_LateCopyError⟩)
      gc_OperatorError := PySem.W.mg_of X G aC1
      is_OperatorError := Ca.t_ok (P := fun c b => IsC K c ∧ PySem.W.kitOne K (.ref c) (.ref C1) = some b) (by
        intro e he
        replace he : e ∈ [Er.AxisError, Er.OperatorError, Er.FaultError] := he
        simp only [List.mem_cons, List.not_mem_nil, or_false] at he
        rcases he with rfl | rfl | rfl
        · exact ⟨⟨icl0, ga0, gg0, eC0, ica0, igs, itk, imr0⟩, kit0_OperatorError⟩
        · exact ⟨⟨icl1, ga1, gg1, eC1, ica1, igs, itk, imr1⟩, kit1_OperatorError⟩
        · exact ⟨⟨icl2, ga2, gg2, eC2, ica2, igs, itk, imr2⟩, kit2_OperatorError⟩)
      is_ValueError := Ca.tL_ok (P := fun c b => IsC K c ∧ PySem.W.kitOne K (.ref c) (.type "ValueError") = some b) (by
        intro e he
        replace he : e ∈ [Er.AxisError, Er.OperatorError, Er.FaultError] := he
        simp only [List.mem_cons, List.not_mem_nil, or_false] at he
        rcases he with rfl | rfl | rfl
        · exact ⟨⟨icl0, ga0, gg0, eC0, ica0, igs, itk, imr0⟩, kit0_ValueError⟩
        · exact ⟨⟨icl1, ga1, gg1, eC1, ica1, igs, itk, imr1⟩, kit1_ValueError⟩
        · exact ⟨⟨icl2, ga2, gg2, eC2, ica2, igs, itk, imr2⟩, kit2_ValueError⟩)
      g_OPERATORS := ⟨_, gc_tup (vs := [.str "+", .str "-", .str "*", .str "//", .str "mod", .str "min", .str "max", .str "less", .str "equal"]) (PySem.W.mg_of X G g0) gl0 gz0 gm0 rfl⟩
      g_FOLDS := ⟨_, gc_tup (vs := [.str "+", .str "*", .str "min", .str "max"]) (PySem.W.mg_of X G g1) gl1 gz1 gm1 rfl⟩
      g_LIMIT := ⟨_, gc_int (PySem.W.mg_of X G g2)⟩ }
  exact ok_law T F15 (fun A ns he hi hl => hm_holds A ns he hi hl)
end K43
open PySem PySem.W PyProof.Rows
set_option maxRecDepth 100000 in
set_option maxHeartbeats 0 in
theorem PySem.Challenge.cw_latecopy_k43_folds_holds : PySem.Challenge.rw_latecopy_k43_folds.Holds := by
  w_on; o_law; k_head; (case hw => w_witness2)
  k_fill
  refine L2.walk_of (l := PySem.Challenge.rw_latecopy_k43_folds) (n := 63) (k := 7) (x := "_law_script") (CX := fun w => L2.CX PySem.Challenge.rw_latecopy_k43_folds.prog w) (sp := fun w => Mr.spLaw _) rfl (by decide) rfl ⟨rfl, by decide, by decide⟩ (fun w h Y => PySem.W.kIn_of Y) ?F (fun _ _ a ns hl _ hS => ⟨a, ns, rfl, hS, hl, fun _ => rfl⟩) (fun w H s e s2 z => Mr.noCX z)
  case F =>
    intro w mg fa h KX G hmg
    refine' K43.all_mk KX G hmg ?ZaL ?ZrL ?ZfL ?ZsL ?ZaC0 ?ZxC0 ?ZbC0 ?ZsC0 ?ZeC0 ?ZtC0 ?ZkC0 ?Zga0 ?Zgg0 ?Zhd0 ?Zno0_0 ?ZaI0 ?ZtI0 ?ZlI0 ?ZcI0 ?ZkI0 ?ZaC1 ?ZxC1 ?ZbC1 ?ZsC1 ?ZeC1 ?ZtC1 ?ZkC1 ?Zga1 ?Zgg1 ?Zhd1 ?Zno1_0 ?ZaI1 ?ZtI1 ?ZlI1 ?ZcI1 ?ZkI1 ?ZaC2 ?ZxC2 ?ZbC2 ?ZsC2 ?ZeC2 ?ZtC2 ?ZkC2 ?Zga2 ?Zgg2 ?Zhd2 ?Zno2_0 ?ZaI2 ?ZtI2 ?ZlI2 ?ZcI2 ?ZkI2 ?ZxL_0 ?ZxL_1 ?ZxL_2 ?Zx0_0 ?Zx0_1 ?Zx1_1 ?Zx0_2 ?Zx1_2 ?Zx2_2 ?Zigs ?Zitk ?Zicl0 ?Zica0 ?Zimr0 ?Zkit0_AxisError ?Zkit0_FaultError ?Zkit0_LateCopyError ?Zkit0_OperatorError ?Zkit0_ValueError ?Zicl1 ?Zica1 ?Zimr1 ?Zkit1_AxisError ?Zkit1_FaultError ?Zkit1_LateCopyError ?Zkit1_OperatorError ?Zkit1_ValueError ?Zicl2 ?Zica2 ?Zimr2 ?Zkit2_AxisError ?Zkit2_FaultError ?Zkit2_LateCopyError ?Zkit2_OperatorError ?Zkit2_ValueError ?Za0 ?Zl0 ?Zc0 ?Zk0 ?Za1 ?Zl1 ?Zc1 ?Zk1 ?Za2 ?Zl2 ?Zc2 ?Zk2 ?Za3 ?Zl3 ?Zc3 ?Zk3 ?Za4 ?Zl4 ?Zc4 ?Zk4 ?Za5 ?Zl5 ?Zc5 ?Zk5 ?Za6 ?Zl6 ?Zc6 ?Zk6 ?Za7 ?Zl7 ?Zc7 ?Zk7 ?Za8 ?Zl8 ?Zc8 ?Zk8 ?Za9 ?Zl9 ?Zc9 ?Zk9 ?Za10 ?Zl10 ?Zc10 ?Zk10 ?Za11 ?Zl11 ?Zc11 ?Zk11 ?Za12 ?Zl12 ?Zc12 ?Zk12 ?Za13 ?Zl13 ?Zc13 ?Zk13 ?Za14 ?Zl14 ?Zc14 ?Zk14 ?Za15 ?Zl15 ?Zc15 ?Zk15 ?Zz_ValueError ?Zz_abs ?Zz_all ?Zz_bool ?Zz_int ?Zz_isinstance ?Zz_len ?Zz_list ?Zz_max ?Zz_min ?Zz_range ?Zz_str ?Zz_tuple ?Zz_zip ?Zg0 ?Zgl0 ?Zgz0 ?Zgm0 ?Zg1 ?Zgl1 ?Zgz1 ?Zgm1 ?Zg2
    (case ZaL => k_is)
    (case ZrL => k_is)
    (case ZfL => k_is)
    (case ZsL => k_is)
    (case ZaC0 => k_is)
    (case ZxC0 => first | k_is | decide +kernel | rfl)
    (case ZbC0 => first | k_is | decide +kernel | rfl)
    (case ZsC0 => k_is)
    (case ZeC0 => k_is)
    (case ZtC0 => k_is)
    (case ZkC0 => first | k_is | decide +kernel | rfl)
    (case Zga0 => k_is)
    (case Zgg0 => k_is)
    (case Zhd0 => k_is)
    (case Zno0_0 => k_is)
    (case ZaI0 => k_is)
    (case ZtI0 => k_is)
    (case ZlI0 => k_is)
    (case ZcI0 => k_is)
    (case ZkI0 => first | k_is | decide +kernel | rfl)
    (case ZaC1 => k_is)
    (case ZxC1 => first | k_is | decide +kernel | rfl)
    (case ZbC1 => first | k_is | decide +kernel | rfl)
    (case ZsC1 => k_is)
    (case ZeC1 => k_is)
    (case ZtC1 => k_is)
    (case ZkC1 => first | k_is | decide +kernel | rfl)
    (case Zga1 => k_is)
    (case Zgg1 => k_is)
    (case Zhd1 => k_is)
    (case Zno1_0 => k_is)
    (case ZaI1 => k_is)
    (case ZtI1 => k_is)
    (case ZlI1 => k_is)
    (case ZcI1 => k_is)
    (case ZkI1 => first | k_is | decide +kernel | rfl)
    (case ZaC2 => k_is)
    (case ZxC2 => first | k_is | decide +kernel | rfl)
    (case ZbC2 => first | k_is | decide +kernel | rfl)
    (case ZsC2 => k_is)
    (case ZeC2 => k_is)
    (case ZtC2 => k_is)
    (case ZkC2 => first | k_is | decide +kernel | rfl)
    (case Zga2 => k_is)
    (case Zgg2 => k_is)
    (case Zhd2 => k_is)
    (case Zno2_0 => k_is)
    (case ZaI2 => k_is)
    (case ZtI2 => k_is)
    (case ZlI2 => k_is)
    (case ZcI2 => k_is)
    (case ZkI2 => first | k_is | decide +kernel | rfl)
    (case ZxL_0 => first | k_is | decide +kernel | rfl)
    (case ZxL_1 => first | k_is | decide +kernel | rfl)
    (case ZxL_2 => first | k_is | decide +kernel | rfl)
    (case Zx0_0 => first | k_is | decide +kernel | rfl)
    (case Zx0_1 => first | k_is | decide +kernel | rfl)
    (case Zx1_1 => first | k_is | decide +kernel | rfl)
    (case Zx0_2 => first | k_is | decide +kernel | rfl)
    (case Zx1_2 => first | k_is | decide +kernel | rfl)
    (case Zx2_2 => first | k_is | decide +kernel | rfl)
    (case Zigs => first | k_is | decide +kernel | rfl)
    (case Zitk => first | k_is | decide +kernel | rfl)
    (case Zicl0 => first | k_is | decide +kernel | rfl)
    (case Zica0 => first | k_is | decide +kernel | rfl)
    (case Zimr0 => first | k_is | decide +kernel | rfl)
    (case Zkit0_AxisError => first | k_is | decide +kernel | rfl)
    (case Zkit0_FaultError => first | k_is | decide +kernel | rfl)
    (case Zkit0_LateCopyError => first | k_is | decide +kernel | rfl)
    (case Zkit0_OperatorError => first | k_is | decide +kernel | rfl)
    (case Zkit0_ValueError => first | k_is | decide +kernel | rfl)
    (case Zicl1 => first | k_is | decide +kernel | rfl)
    (case Zica1 => first | k_is | decide +kernel | rfl)
    (case Zimr1 => first | k_is | decide +kernel | rfl)
    (case Zkit1_AxisError => first | k_is | decide +kernel | rfl)
    (case Zkit1_FaultError => first | k_is | decide +kernel | rfl)
    (case Zkit1_LateCopyError => first | k_is | decide +kernel | rfl)
    (case Zkit1_OperatorError => first | k_is | decide +kernel | rfl)
    (case Zkit1_ValueError => first | k_is | decide +kernel | rfl)
    (case Zicl2 => first | k_is | decide +kernel | rfl)
    (case Zica2 => first | k_is | decide +kernel | rfl)
    (case Zimr2 => first | k_is | decide +kernel | rfl)
    (case Zkit2_AxisError => first | k_is | decide +kernel | rfl)
    (case Zkit2_FaultError => first | k_is | decide +kernel | rfl)
    (case Zkit2_LateCopyError => first | k_is | decide +kernel | rfl)
    (case Zkit2_OperatorError => first | k_is | decide +kernel | rfl)
    (case Zkit2_ValueError => first | k_is | decide +kernel | rfl)
    (case Za0 => k_is)
    (case Zl0 => k_is)
    (case Zc0 => k_is)
    (case Zk0 => first | k_is | decide +kernel | rfl)
    (case Za1 => k_is)
    (case Zl1 => k_is)
    (case Zc1 => k_is)
    (case Zk1 => first | k_is | decide +kernel | rfl)
    (case Za2 => k_is)
    (case Zl2 => k_is)
    (case Zc2 => k_is)
    (case Zk2 => first | k_is | decide +kernel | rfl)
    (case Za3 => k_is)
    (case Zl3 => k_is)
    (case Zc3 => k_is)
    (case Zk3 => first | k_is | decide +kernel | rfl)
    (case Za4 => k_is)
    (case Zl4 => k_is)
    (case Zc4 => k_is)
    (case Zk4 => first | k_is | decide +kernel | rfl)
    (case Za5 => k_is)
    (case Zl5 => k_is)
    (case Zc5 => k_is)
    (case Zk5 => first | k_is | decide +kernel | rfl)
    (case Za6 => k_is)
    (case Zl6 => k_is)
    (case Zc6 => k_is)
    (case Zk6 => first | k_is | decide +kernel | rfl)
    (case Za7 => k_is)
    (case Zl7 => k_is)
    (case Zc7 => k_is)
    (case Zk7 => first | k_is | decide +kernel | rfl)
    (case Za8 => k_is)
    (case Zl8 => k_is)
    (case Zc8 => k_is)
    (case Zk8 => first | k_is | decide +kernel | rfl)
    (case Za9 => k_is)
    (case Zl9 => k_is)
    (case Zc9 => k_is)
    (case Zk9 => first | k_is | decide +kernel | rfl)
    (case Za10 => k_is)
    (case Zl10 => k_is)
    (case Zc10 => k_is)
    (case Zk10 => first | k_is | decide +kernel | rfl)
    (case Za11 => k_is)
    (case Zl11 => k_is)
    (case Zc11 => k_is)
    (case Zk11 => first | k_is | decide +kernel | rfl)
    (case Za12 => k_is)
    (case Zl12 => k_is)
    (case Zc12 => k_is)
    (case Zk12 => first | k_is | decide +kernel | rfl)
    (case Za13 => k_is)
    (case Zl13 => k_is)
    (case Zc13 => k_is)
    (case Zk13 => first | k_is | decide +kernel | rfl)
    (case Za14 => k_is)
    (case Zl14 => k_is)
    (case Zc14 => k_is)
    (case Zk14 => first | k_is | decide +kernel | rfl)
    (case Za15 => k_is)
    (case Zl15 => k_is)
    (case Zc15 => k_is)
    (case Zk15 => first | k_is | decide +kernel | rfl)
    (case Zz_ValueError => k_is)
    (case Zz_abs => k_is)
    (case Zz_all => k_is)
    (case Zz_bool => k_is)
    (case Zz_int => k_is)
    (case Zz_isinstance => k_is)
    (case Zz_len => k_is)
    (case Zz_list => k_is)
    (case Zz_max => k_is)
    (case Zz_min => k_is)
    (case Zz_range => k_is)
    (case Zz_str => k_is)
    (case Zz_tuple => k_is)
    (case Zz_zip => k_is)
    (case Zg0 => k_is)
    (case Zgl0 => k_is)
    (case Zgz0 => first | k_is | decide +kernel | rfl)
    (case Zgm0 => first | k_is | decide +kernel | rfl)
    (case Zg1 => k_is)
    (case Zgl1 => k_is)
    (case Zgz1 => first | k_is | decide +kernel | rfl)
    (case Zgm1 => first | k_is | decide +kernel | rfl)
    (case Zg2 => k_is)

